import PyProof.Rows.All
import Wide.All
import OpenK.AllK
import Wide.FinOn
import HandS.ForExc
import HandS.ForMost
import HandS.IsInst
import HandS.TupAny
import HandS.TupMul
import HandS.Strs
import HandS.Conv
import HandS.Wide
import HandS.WideBits
import HandS.Text
import HandS.Dict
import HandS.WordsDict
import HandS.TupLen
import HandS.More
import HandS.Iter
import HandS.Zip
import HandS.Comp
import HandS.ExcOwn
import HandS.WordsExc
import HandS.RaiseMore
import KE.KRevSl
import KE.GoesMore
import HandS.TupLe
import HandS.Rev
import HandS.SetFor
import HandS.MapSum
import KE.KDictDisplayH
import PyProof.SumAny
import HandS.Sort
import HandS.TryOnly
import HandS.ExcInit
import HandS.ExcField
import HandS.ExcIs
import HandS.ClsMeth
import KE.KExcIs
import HandS.TupSets
import KE.KSortTup
import HandS.DeepEq
import KE.KDictZip
import HandS.SetKeys
import HandS.RevRange
import HandS.List
import PyProof.RowDictHeap
import PyProof.AutoSeq1
import PySem.Challenge.RW_halforder_k05_lines_there_and_back
set_option Elab.async false
set_option linter.all false
set_option maxRecDepth 100000
/-! V0: tuples that are made are known as objects (so that they have no dict of their own, and their methods can be called). -/
namespace VL
open PySem PySem.Spec L2
open PyProof.Rows (IsTup)

def tupO (us : List Value) : Obj := { cls := .type "tuple", data := .seq us.toArray }
abbrev tupC (us : List Value) (xs : List V) : HO := .frz (tupO us) (.tup xs)
def TupF (F : Hp) (p : Addr) (xs : List V) : Prop := ∃ us, F p = some (tupC us xs)
theorem TupF.sq {F : Hp} {p : Addr} {xs : List V} (K : PySem.W.Frag) (h : TupF F p xs) : SqT K F p xs := let ⟨_, e⟩ := h; .inl (.inr ⟨_, e⟩)
theorem TupF.mono {F F' : Hp} {p : Addr} {xs : List V} (s : Same F F') (h : TupF F p xs) : TupF F' p xs := let ⟨us, e⟩ := h; ⟨us, s _ _ e⟩
theorem tupC_ok {P : Program} {w : World} {H : Hp} {h : Heap} {a : Addr} {us : List Value} {xs : List V} (hz : xs.length ≤ sizeLine) (r : Vals xs us) (e : h.get? a = some (tupO us)) : ObjOk P w H h a (tupC us xs) :=
  ⟨e, hz, us, r, ⟨_, e, rfl, _, rfl⟩⟩
section
variable {X : Cx} {pos : Pos} {es : List Expr} {t : TA}
def tTupF (t : TA) : TE := fun σ H Q => t σ H fun xs H1 => xs.length ≤ sizeLine ∧ ∀ p us, H1 p = none → Q (.ref p) (upd H1 p (tupC us xs))
theorem pe_tupF {x1} (h : PA X es t) : PE X (.Tuple es x1 pos) (tTupF t) := by
  refine ⟨fun pins s σ H Q I hq => ?_⟩
  refine wpAny_Tuple_spliced (thn (h.run pos pins s σ H _ I hq) fun us s1 ⟨xs, H1, I1, r, z, q⟩ => ⟨by rw [← r.length]; exact z, ?_⟩)
  have hf : H1 s1.heap.objs.size = none := I1.hok.fresh (Nat.le_refl _)
  exact ⟨.ref s1.heap.objs.size, upd H1 s1.heap.objs.size (tupC us xs), I1.laid (t' := s1.toks) (fun b u e => Heap.get?_push_of_some _ e) (Nat.le_refl _) (tupC_ok z r (Heap.get?_push_size _ rfl)), rfl, q _ us hf⟩
def rCatF (K : PySem.W.Frag) : R2 := fun x y H Q => ∃ a b xs ys, x = .ref a ∧ y = .ref b ∧ SqT K H a xs ∧ SqT K H b ys ∧ xs.length + ys.length ≤ sizeLine ∧
  (xs = [] → Q (.ref b) H) ∧ (xs ≠ [] → ys = [] → Q (.ref a) H) ∧ (xs ≠ [] → ys ≠ [] → ∀ p us, H p = none → Q (.ref p) (upd H p (tupC us (xs ++ ys))))
theorem op_catF : OpR X (binaryOp .Add) (rCatF X.K) := by
  intro pins s σ H x y v u Q I rx ry h
  obtain ⟨a, b, xs, ys, rfl, rfl, ha, hb, hz, q0, q1, q2⟩ := h
  cases rx
  cases ry
  obtain ⟨its, r1, p1, _⟩ := I.tuple ha
  obtain ⟨its2, r2, p2, _⟩ := I.tuple hb
  by_cases hx : xs = []
  · subst hx
    cases r1
    exact cat_tup0 p1 p2 ⟨.ref b, H, I, rfl, q0 rfl⟩
  · refine HT.cat_tup p1 p2 (fun z => hx (r1.nil_iff.mp z)) (fun z => ⟨.ref a, H, I, rfl, q1 hx (r2.nil_iff.mp z)⟩) (fun z => ?_) (by rw [← r1.length, ← r2.length]; exact hz)
    refine ⟨.ref s.heap.objs.size, _, I.laid (t' := s.toks) (o := tupC (its ++ its2) (xs ++ ys)) (fun b ob q => Heap.get?_push_of_some _ q) (Nat.le_refl _) ?_, rfl, q2 hx (fun w => z (r2.nil_iff.mpr w)) _ _ (I.hok.fresh (Nat.le_refl _))⟩
    exact tupC_ok (by rw [List.length_append]; exact hz) (r1.append r2) (Heap.get?_push_size _ rfl)
def rSlF (K : PySem.W.Frag) : V → Option Int → Option Int → Hp → VK → Prop := fun x lo hi H Q => ∃ a xs, x = .ref a ∧ SqT K H a xs ∧
  (HT.sIx xs.length 0 lo = 0 ∧ HT.sIx xs.length xs.length hi = xs.length → Q (.ref a) H) ∧ (¬ (HT.sIx xs.length 0 lo = 0 ∧ HT.sIx xs.length xs.length hi = xs.length) → ∀ p us, H p = none → Q (.ref p) (upd H p (tupC us (cutV xs lo hi))))
theorem sl_tupF : SlR X (rSlF X.K) := by
  intro pins s σ H x v vl vu lo hi sl Q I rx hs pl pu h
  obtain ⟨a, xs, rfl, hx, q1, q2⟩ := h
  cases rx
  obtain ⟨its, r, ht, hz⟩ := I.tuple hx
  have hlen : its.toArray.size = xs.length := by rw [List.size_toArray]; exact r.length.symm
  refine ⟨"tuple", _, PyProof.Rows.slot_tuple_getitem.lookup, ht.typeIs, ?_⟩
  by_cases hw : HT.sIx xs.length 0 lo = 0 ∧ HT.sIx xs.length xs.length hi = xs.length
  · exact getItem_tuple_whole ht hs pl pu (by rw [hlen]; exact hw) ⟨.ref a, H, I, rfl, q1 hw⟩
  · refine HT.getItem_tuple_cut ht hs pl pu (by rw [hlen]; exact hw) ?_ (by rw [hlen]; exact hz)
    rw [hlen]
    refine ⟨.ref s.heap.objs.size, _, I.laid (t' := s.toks) (o := tupC ((its.drop (HT.sIx xs.length 0 lo)).take (HT.sIx xs.length xs.length hi - HT.sIx xs.length 0 lo)) (cutV xs lo hi)) (fun b ob q => Heap.get?_push_of_some _ q) (Nat.le_refl _) ?_, rfl, q2 hw _ _ (I.hok.fresh (Nat.le_refl _))⟩
    exact tupC_ok (Nat.le_trans (cutV_length xs lo hi) hz) ((r.drop (HT.sIx xs.length 0 lo)).take (HT.sIx xs.length xs.length hi - HT.sIx xs.length 0 lo)) (Heap.get?_push_size _ rfl)
def rRepF (K : PySem.W.Frag) : R2 := fun x y H Q => ∃ l k xs, x = .ref l ∧ y = .int k ∧ SqT K H l xs ∧ xs ≠ [] ∧ 2 ≤ k ∧ k ≤ 1000 ∧ xs.length ≤ 1000 ∧ ∀ p us, H p = none → Q (.ref p) (upd H p (tupC us (List.replicate k.toNat xs).flatten))
theorem op_repF : OpR X (binaryOp .Mult) (rRepF X.K) := by
  intro pins s σ H x y v u Q I rx ry h
  obtain ⟨l, k, xs, rfl, rfl, hT, hne, h1, h2, hz, q⟩ := h
  cases rx
  obtain ⟨t, rfl⟩ := ry
  obtain ⟨its, r, ⟨⟨cls, dd, data, sl⟩, ho, hc, n, hd⟩, hs⟩ := I.tuple hT
  simp only at hc hd
  subst hc hd
  have hle : its.length = xs.length := r.length.symm
  have hn : its ≠ [] := fun e => hne (by
    rw [e] at hle
    exact List.eq_nil_of_length_eq_zero hle.symm)
  have hi : its.toArray.isEmpty = false := by
    cases its with
    | nil => exact absurd rfl hn
    | cons a b => rfl
  have hsz0 : its.toArray.size = xs.length := by rw [List.size_toArray, hle]
  have hm : ((its.toArray.size : Nat) : Int) * k ≤ 1000000 := by
    rw [hsz0]
    have a1 : ((xs.length : Nat) : Int) * k ≤ 1000 * k := Int.mul_le_mul_of_nonneg_right (by omega) (by omega)
    omega
  have flen : (List.replicate k.toNat its).flatten.length ≤ sizeLine := by
    rw [PyProof.Rows.lm_len_rep_flat, hle, sizeLine_eq]
    have a1 : k.toNat * xs.length ≤ 1000 * 1000 := Nat.mul_le_mul (by omega) hz
    omega
  have c0 : (decide (k < -(2 ^ 63)) || decide (k ≥ 2 ^ 63)) = false := by
    rw [decide_eq_false (by omega), decide_eq_false (by omega)] <;> rfl
  have c1 : (its.toArray.isEmpty || k == 1) = false := by
    rw [hi, Bool.false_or]
    exact beq_eq_false_iff_ne.mpr (by omega)
  have c2 : (decide (k ≤ 0) || its.toArray.isEmpty) = false := by
    rw [hi, Bool.or_false]
    exact decide_eq_false (by omega)
  have c4 : Builtin.Tuple.tupleTooMany (((its.toArray.size : Nat) : Int) * k) = false := by
    unfold Builtin.Tuple.tupleTooMany
    rw [sizeLine_eq]
    exact decide_eq_false (by omega)
  refine wpAny_binaryOp_repeat_ref (T := "tuple") (U := "int") (by decide) ⟨_, ho, rfl⟩ (fun s' => typeIs_int s' k t) noFill_tuple_mul F.fills_int_mul F.slot_int_rmul repeat_tuple F.slot_int_index.lookup
    (call_meets F.slot_int_rmul (typeIs_int s k t) F.entry_int_rmul (F.args_int_rmul_2 _ _) (int_rmul_tuple k t l its.toArray n dd sl)
      ⟨ho, rfl, ⟨_, ho, rfl⟩, call_meets F.slot_tuple_mul ⟨_, ho, rfl⟩ F.entry_tuple_mul (F.args_tuple_mul_2 _ _) (tuple_mulW l its.toArray n dd sl k t c0 c1 c2 (by omega) c4 (by rw [size_rep, List.size_toArray]; exact flen)) ⟨ho, ?_⟩⟩)
  rw [size_rep]
  refine ⟨.ref s.heap.objs.size, _, I.laid (t' := s.toks) (o := tupC (List.replicate k.toNat its).flatten (List.replicate k.toNat xs).flatten) (fun b ob q => Heap.get?_push_of_some _ q) (Nat.le_refl _) ?_, rfl, q _ _ (I.hok.fresh (Nat.le_refl _))⟩
  exact tupC_ok (by rw [PyProof.Rows.lm_len_rep_flat, sizeLine_eq]; have a1 : k.toNat * xs.length ≤ 1000 * 1000 := Nat.mul_le_mul (by omega) hz; omega) (r.rep k.toNat) (Heap.get?_push_size _ rfl)
/-- tuple(x) -/
def kTupF (K : PySem.W.Frag) (x : V) (H : Hp) (Q : VK) : Prop :=
  (∃ p xs, x = .ref p ∧ SqL K H p xs ∧ ∀ q us, H q = none → Q (.ref q) (upd H q (tupC us xs))) ∨ (∃ p xs, x = .ref p ∧ SqT K H p xs ∧ Q (.ref p) H)
theorem rl_tupleF (pins : List (Addr × Obj)) (s : Shared) (σ : St) (H : Hp) (x : V) (v : Value) (Q : VK) (I : Inv X pins σ H s) (r : RelV x v) (h : kTupF X.K x H Q) :
    wpAny (model X.prog X.w) X.A (call (.type "tuple") [v]) (EP X pins σ Q) X.xe s := by
  rcases h with ⟨p, xs, rfl, hs, q⟩ | ⟨p, xs, rfl, hs, q⟩
  · obtain rfl : v = .ref p := r
    obtain ⟨its, rv, pl, hz⟩ := I.list hs
    refine call_tuple_list pl.isList (fun h' hk => ?_) (by rw [List.size_toArray, ← rv.length]; exact hz)
    have I1 : Inv X pins σ H { s with heap := h' } := I.kept (t' := s.toks) hk
    have I2 : Inv X pins σ (upd H h'.objs.size (tupC its xs)) { s with heap := h'.push { cls := .type "tuple", data := .seq its.toArray } } :=
      I1.laid (t' := s.toks) (fun b o e => Heap.get?_push_of_some _ e) (Nat.le_refl _) (tupC_ok hz rv (Heap.get?_push_size _ rfl))
    exact ⟨.ref h'.objs.size, upd H h'.objs.size (tupC its xs), I2, rfl, q _ _ (I1.hok.fresh (Nat.le_refl _))⟩
  · obtain rfl : v = .ref p := r
    obtain ⟨its, rv, pl, hz⟩ := I.tuple hs
    exact call_tuple_same pl ⟨.ref p, H, I, rfl, q⟩
theorem pe_tupleOfF {a : Expr} {ta : TE} {p pos : Pos} (hg : Gl X "tuple") (hm : X.mg "tuple" = none) (ha : PE X a ta) (na : starEach [a] X.env = (false, eval a X.env) :: starEach [] X.env := by rfl) :
    PE X (.Call (.Name "tuple" p) [a] [] pos) (tThen ta (kTupF X.K)) := by
  refine ⟨fun pins s σ H Q I h => ?_⟩
  exact PyProof.Rows.Call_ (ld_blt I hg hm PyProof.Rows.boot_tuple (PyProof.Rows.callWith_type1 (one_arg ha I h (fun v s2 x H2 I2 r q => rl_tupleF pins s2 σ H2 x v Q I2 r q) na) na))
/-- a tuple's method -/
def tTM (r : V → List V → Hp → VK → Prop) (to : TE) (t : TA) : TE := fun σ H Q => to σ H fun x H1 => (∃ a xs, x = .ref a ∧ TupF H1 a xs) ∧ t σ H1 fun vs H2 => r x vs H2 Q
theorem pe_tm {id : String} {name : Str} {o e : Expr} {es : List Expr} {apos cpos : Pos} {to : TE} {t : TA} {r : V → List V → Hp → VK → Prop} (slot : Slot "tuple" name id) (hty : typeOf (.builtin id) = pure (.type "method_descriptor")) (hm : MtR X id r) (ho : PE X o to) (ha : PA X (e :: es) t)
    (hbase : attributeBase o name X.env (eval o X.env) = eval o X.env := by rfl)
    (hfew : ((backTo cpos (starEach (e :: es) X.env)).all (fun x => !x.1) && (backToKw cpos (keywordEach [] X.env)).all (fun x => x.1.isSome)
      && decide ((e :: es).length + ([] : List Keyword).length + (if ([] : List Keyword).isEmpty then 0 else 1) < 30)) = true := by rfl)
    (hline : (apos.endLine == cpos.line) = true := by rfl) (hs : starEach (e :: es) X.env = (false, eval e X.env) :: starEach es X.env := by rfl) (hplain : (backTo cpos (starEach es X.env)).any (·.1) = false := by rfl) :
    PE X (.Call (.Attribute o name apos) (e :: es) [] cpos) (tTM r to t) := by
  refine ⟨fun pins s σ H Q I h => ?_⟩
  refine wpAny_Call_method_late hbase hfew hline rfl (thn (ho.run pins s σ H _ I h) fun v s1 ⟨x, H1, I1, r1, ⟨a, xs, ex, us, ea⟩, q1⟩ => ?_)
  subst ex
  obtain rfl : v = Value.ref a := r1
  obtain ⟨hob, _⟩ := I1.hok a _ ea
  refine ⟨"tuple", id, PySem.F.plainAttrs_tuple, slot, hty, ⟨_, hob, rfl⟩, fun b z => by cases z; exact ⟨_, hob, rfl⟩, ?_⟩
  have hA := ha.run cpos pins s1 σ H1 _ I1 q1
  rw [hs] at hA ⊢
  refine Calls.callWith_builtin (by show (false || (backTo cpos (starEach es X.env)).any (·.1)) = false; rw [hplain] <;> rfl) (Calls.evalArgs_plain ?_)
  exact thn hA fun us s2 ⟨vs, H2, I2, r2, q2⟩ => hm pins s2 σ H2 (.ref a) vs (.ref a) us Q I2 rfl r2 q2
end
end VL
/-! V1: data D, how a value bears it in the frozen heap F (Rep), owned cells (OR), the frame's slots (RelL), what a step leaves (Ext). -/
namespace VL
open PySem PySem.Spec L2

inductive D where
  | non | bl (b : Bool) | int (i : Int) | str (x : Str)
  | tup (xs : List D) | lst (xs : List D)
  | dK (kvs : List (Key × D)) | dT (kvs : List (List Key × D))
  | ob (c : Str) (fs : List (Str × D))
  | scr (ns : List Int)
  | rp (p : PyData) | ty (n : String)
  | key (ks : List Key)

/-- a text of signs below 128, not too long -/
def asc (x : Str) : Bool := x.cps.all (· < 128) && decide (x.length ≤ 16777216)
def ascK : Key → Bool
  | .inl _ => true
  | .inr x => asc x
/-- what of a cell is mutable by the frame that owns it -/
inductive Sh where
  | leaf | lst (s : Sh) | dic (s : Sh)
  | exc (mg : Str → Option Value) (a : Addr) (cls : Value) (d : Option Addr)
  | ins (C : Addr) (fs : List (Str × Sh))

mutual
/-- v bears the data d, all its objects stand in F -/
inductive Rep (K : PySem.W.Frag) (F : Hp) : V → D → Prop
  | non : Rep K F .non .non
  | bl (b : Bool) : Rep K F (.bl b) (.bl b)
  | int (i : Int) : Rep K F (.int i) (.int i)
  | str (x : Str) (h : asc x = true) : Rep K F (.str x) (.str x)
  | tup {a : Addr} {vs : List V} {ds : List D} : TupF F a vs → Reps K F vs ds → Rep K F (.ref a) (.tup ds)
  | lst {a : Addr} {vs : List V} {ds : List D} : F a = some (.lst vs) → Reps K F vs ds → Rep K F (.ref a) (.lst ds)
  | dK {a : Addr} {o : Obj} {kvs : List (Key × V)} {ds : List (Key × D)} : F a = some (.frz o (.dK kvs)) → kvs.map Prod.fst = ds.map Prod.fst → Reps K F (kvs.map Prod.snd) (ds.map Prod.snd) → Rep K F (.ref a) (.dK ds)
  | dT {a : Addr} {o : Obj} {kvs : List (List Key × V)} {ds : List (List Key × D)} : F a = some (.frz o (.dT kvs)) → kvs.map Prod.fst = ds.map Prod.fst → Reps K F (kvs.map Prod.snd) (ds.map Prod.snd) → Rep K F (.ref a) (.dT ds)
  | scr {a : Addr} {ns : List Int} : SqL K F a (ns.map V.int) → Rep K F (.ref a) (.scr ns)
  | rp (p : PyData) : Rep K F (.str p.shown) (.rp p)
  | ty (n : String) : Rep K F (.ty n) (.ty n)
  | key {a : Addr} {ks : List Key} : F a = some (.tup (ks.map kV)) → ks.all ascK = true → Rep K F (.ref a) (.key ks)
  | ob (a : Addr) (c : Str) (fs : List (Str × D)) : Rep K F (.ref a) (.ob c fs)
inductive Reps (K : PySem.W.Frag) (F : Hp) : List V → List D → Prop
  | nil : Reps K F [] []
  | cons {v : V} {d : D} {vs : List V} {ds : List D} : Rep K F v d → Reps K F vs ds → Reps K F (v :: vs) (d :: ds)
end

mutual
theorem Rep.mono {K : PySem.W.Frag} {F F' : Hp} (s : Same F F') : ∀ {v : V} {d : D}, Rep K F v d → Rep K F' v d
  | _, _, .non => .non
  | _, _, .bl b => .bl b
  | _, _, .int i => .int i
  | _, _, .str x h => .str x h
  | _, _, .tup h r => .tup (h.mono s) (Reps.mono s r)
  | _, _, .lst h r => .lst (s _ _ h) (Reps.mono s r)
  | _, _, .dK h e r => .dK (s _ _ h) e (Reps.mono s r)
  | _, _, .dT h e r => .dT (s _ _ h) e (Reps.mono s r)
  | _, _, .scr h => .scr (Same.seq s h)
  | _, _, .rp p => .rp p
  | _, _, .ty n => .ty n
  | _, _, .key h e => .key (s _ _ h) e
  | _, _, .ob a c fs => .ob a c fs
theorem Reps.mono {K : PySem.W.Frag} {F F' : Hp} (s : Same F F') : ∀ {vs : List V} {ds : List D}, Reps K F vs ds → Reps K F' vs ds
  | _, _, .nil => .nil
  | _, _, .cons h r => .cons (Rep.mono s h) (Reps.mono s r)
end
theorem Reps.length {K : PySem.W.Frag} {F : Hp} : ∀ {vs : List V} {ds : List D}, Reps K F vs ds → vs.length = ds.length
  | _, _, .nil => rfl
  | _, _, .cons _ r => by rw [List.length_cons, List.length_cons, Reps.length r]
theorem Reps.get {K : PySem.W.Frag} {F : Hp} : ∀ {vs : List V} {ds : List D} {i : Nat} {d : D}, Reps K F vs ds → ds[i]? = some d → ∃ v, vs[i]? = some v ∧ Rep K F v d
  | _, _, _, _, .nil, e => by simp at e
  | _, _, 0, _, .cons r _, e => by simp at e; subst e; exact ⟨_, rfl, r⟩
  | _, _, i + 1, d, .cons _ t, e => by
    obtain ⟨u, h1, h2⟩ := Reps.get (i := i) (d := d) t (by simpa using e)
    exact ⟨u, by simpa using h1, h2⟩
theorem Reps.getV {K : PySem.W.Frag} {F : Hp} : ∀ {vs : List V} {ds : List D} {i : Nat} {v : V}, Reps K F vs ds → vs[i]? = some v → ∃ d, ds[i]? = some d ∧ Rep K F v d
  | _, _, _, _, .nil, e => by simp at e
  | _, _, 0, _, .cons r _, e => by simp at e; subst e; exact ⟨_, rfl, r⟩
  | _, _, i + 1, d, .cons _ t, e => by
    obtain ⟨u, h1, h2⟩ := Reps.getV (i := i) (v := d) t (by simpa using e)
    exact ⟨u, by simpa using h1, h2⟩
theorem Reps.append {K : PySem.W.Frag} {F : Hp} : ∀ {vs ws : List V} {ds es : List D}, Reps K F vs ds → Reps K F ws es → Reps K F (vs ++ ws) (ds ++ es)
  | _, _, _, _, .nil, s => s
  | _, _, _, _, .cons r t, s => .cons r (Reps.append t s)
theorem Reps.take {K : PySem.W.Frag} {F : Hp} : ∀ {vs : List V} {ds : List D} (n : Nat), Reps K F vs ds → Reps K F (vs.take n) (ds.take n)
  | _, _, 0, _ => .nil
  | _, _, _ + 1, .nil => .nil
  | _, _, n + 1, .cons r t => .cons r (Reps.take n t)
theorem Reps.drop {K : PySem.W.Frag} {F : Hp} : ∀ {vs : List V} {ds : List D} (n : Nat), Reps K F vs ds → Reps K F (vs.drop n) (ds.drop n)
  | _, _, 0, r => r
  | _, _, _ + 1, .nil => .nil
  | _, _, n + 1, .cons _ t => Reps.drop n t
theorem Reps.set {K : PySem.W.Frag} {F : Hp} {v : V} {d : D} (r : Rep K F v d) : ∀ {vs : List V} {ds : List D} (i : Nat), Reps K F vs ds → Reps K F (vs.set i v) (ds.set i d)
  | _, _, _, .nil => .nil
  | _, _, 0, .cons _ t => .cons r t
  | _, _, i + 1, .cons q t => .cons q (Reps.set r i t)
theorem Reps.eraseIdx {K : PySem.W.Frag} {F : Hp} : ∀ {vs : List V} {ds : List D} (i : Nat), Reps K F vs ds → Reps K F (vs.eraseIdx i) (ds.eraseIdx i)
  | _, _, _, .nil => .nil
  | _, _, 0, .cons _ t => t
  | _, _, i + 1, .cons q t => .cons q (Reps.eraseIdx i t)
theorem Reps.reverse {K : PySem.W.Frag} {F : Hp} : ∀ {vs : List V} {ds : List D}, Reps K F vs ds → Reps K F vs.reverse ds.reverse
  | _, _, .nil => .nil
  | _, _, .cons r t => by rw [List.reverse_cons, List.reverse_cons]; exact Reps.append (Reps.reverse t) (.cons r .nil)
theorem Reps.dropLast {K : PySem.W.Frag} {F : Hp} {vs : List V} {ds : List D} (h : Reps K F vs ds) : Reps K F vs.dropLast ds.dropLast := by
  rw [List.dropLast_eq_take, List.dropLast_eq_take, h.length]; exact h.take _
theorem Reps.replicate {K : PySem.W.Frag} {F : Hp} {vs : List V} {ds : List D} (h : Reps K F vs ds) : ∀ k : Nat, Reps K F (List.replicate k vs).flatten (List.replicate k ds).flatten
  | 0 => .nil
  | k + 1 => by rw [List.replicate_succ, List.replicate_succ, List.flatten_cons, List.flatten_cons]; exact h.append (Reps.replicate h k)

mutual
/-- v bears d; the cells fp are owned (H has them, F not), the rest stands in F -/
inductive OR (K : PySem.W.Frag) (F H : Hp) : Sh → V → D → List Addr → Prop
  | leaf {v : V} {d : D} : Rep K F v d → OR K F H .leaf v d []
  | lst {s : Sh} {p : Addr} {vs : List V} {ds : List D} {fp : List Addr} : F p = none → H p = some (.lst vs) → ORs K F H s vs ds fp → OR K F H (.lst s) (.ref p) (.lst ds) (p :: fp)
  | dK {s : Sh} {p : Addr} {kvs : List (Key × V)} {ds : List (Key × D)} {fp : List Addr} : F p = none → H p = some (.dK kvs) → kvs.map Prod.fst = ds.map Prod.fst → ORs K F H s (kvs.map Prod.snd) (ds.map Prod.snd) fp → OR K F H (.dic s) (.ref p) (.dK ds) (p :: fp)
  | dT {s : Sh} {p : Addr} {kvs : List (List Key × V)} {ds : List (List Key × D)} {fp : List Addr} : F p = none → H p = some (.dT kvs) → kvs.map Prod.fst = ds.map Prod.fst → ORs K F H s (kvs.map Prod.snd) (ds.map Prod.snd) fp → OR K F H (.dic s) (.ref p) (.dT ds) (p :: fp)
  | exc {mg : Str → Option Value} {a C : Addr} {d : Option Addr} {c : Str} {fs : List (Str × D)} : mg c = some (.ref C) → (fs = [] ∧ d = none ∨ ∃ dd vs, d = some dd ∧ F dd = some (.xd ((fs.map Prod.fst).zip vs)) ∧ Reps K F vs (fs.map Prod.snd)) → OR K F H (.exc mg a (.ref C) d) (.ref a) (.ob c fs) []
  | ins {C p dx : Addr} {c : Str} {sf : List (Str × Sh)} {fv : List (Str × V)} {fd : List (Str × D)} {fp : List Addr} : F p = none → F dx = none → H p = some (.ins C dx fv) → H dx = some (.own p) → OF K F H sf fv fd fp → OR K F H (.ins C sf) (.ref p) (.ob c fd) (p :: dx :: fp)
inductive ORs (K : PySem.W.Frag) (F H : Hp) : Sh → List V → List D → List Addr → Prop
  | nil {s : Sh} : ORs K F H s [] [] []
  | cons {s : Sh} {v : V} {d : D} {vs : List V} {ds : List D} {f g : List Addr} : OR K F H s v d f → ORs K F H s vs ds g → ORs K F H s (v :: vs) (d :: ds) (f ++ g)
/-- the fields of an instance, in order; the last ones may be lacking yet -/
inductive OF (K : PySem.W.Frag) (F H : Hp) : List (Str × Sh) → List (Str × V) → List (Str × D) → List Addr → Prop
  | nil {sf : List (Str × Sh)} : OF K F H sf [] [] []
  | cons {x : Str} {s : Sh} {v : V} {d : D} {sf : List (Str × Sh)} {fv : List (Str × V)} {fd : List (Str × D)} {f g : List Addr} : OR K F H s v d f → OF K F H sf fv fd g → OF K F H ((x, s) :: sf) ((x, v) :: fv) ((x, d) :: fd) (f ++ g)
end
theorem OR.leafE {K : PySem.W.Frag} {F H : Hp} {v : V} {d : D} {fp : List Addr} (h : OR K F H .leaf v d fp) : Rep K F v d ∧ fp = [] := by
  cases h with | leaf r => exact ⟨r, rfl⟩
theorem ORs.leafE {K : PySem.W.Frag} {F H : Hp} : ∀ {vs : List V} {ds : List D} {fp : List Addr}, ORs K F H .leaf vs ds fp → Reps K F vs ds ∧ fp = []
  | _, _, _, .nil => ⟨.nil, rfl⟩
  | _, _, _, .cons h r => by
    obtain ⟨a, rfl⟩ := h.leafE
    obtain ⟨b, rfl⟩ := ORs.leafE r
    exact ⟨.cons a b, rfl⟩
theorem ORs.ofReps {K : PySem.W.Frag} {F H : Hp} : ∀ {vs : List V} {ds : List D}, Reps K F vs ds → ORs K F H .leaf vs ds []
  | _, _, .nil => .nil
  | _, _, .cons h r => ORs.cons (f := []) (g := []) (.leaf h) (ORs.ofReps r)

mutual
/-- the owned cells stand in H and not in F -/
theorem OR.own {K : PySem.W.Frag} {F H : Hp} : ∀ {s : Sh} {v : V} {d : D} {fp : List Addr}, OR K F H s v d fp → ∀ a ∈ fp, F a = none ∧ ∃ o, H a = some o
  | _, _, _, _, .leaf _, _, h => by simp at h
  | _, _, _, _, .exc _ _, _, h => by simp at h
  | _, _, _, _, .lst a b r, x, h => by
    rcases List.mem_cons.mp h with rfl | h
    · exact ⟨a, _, b⟩
    · exact ORs.own r x h
  | _, _, _, _, .dK a b _ r, x, h => by
    rcases List.mem_cons.mp h with rfl | h
    · exact ⟨a, _, b⟩
    · exact ORs.own r x h
  | _, _, _, _, .dT a b _ r, x, h => by
    rcases List.mem_cons.mp h with rfl | h
    · exact ⟨a, _, b⟩
    · exact ORs.own r x h
  | _, _, _, _, .ins a a2 b b2 r, x, h => by
    rcases List.mem_cons.mp h with rfl | h
    · exact ⟨a, _, b⟩
    · rcases List.mem_cons.mp h with rfl | h
      · exact ⟨a2, _, b2⟩
      · exact OF.own r x h
theorem ORs.own {K : PySem.W.Frag} {F H : Hp} : ∀ {s : Sh} {vs : List V} {ds : List D} {fp : List Addr}, ORs K F H s vs ds fp → ∀ a ∈ fp, F a = none ∧ ∃ o, H a = some o
  | _, _, _, _, .nil, _, h => by simp at h
  | _, _, _, _, .cons r t, x, h => by
    rcases List.mem_append.mp h with h | h
    · exact OR.own r x h
    · exact ORs.own t x h
theorem OF.own {K : PySem.W.Frag} {F H : Hp} : ∀ {sf : List (Str × Sh)} {fv : List (Str × V)} {fd : List (Str × D)} {fp : List Addr}, OF K F H sf fv fd fp → ∀ a ∈ fp, F a = none ∧ ∃ o, H a = some o
  | _, _, _, _, .nil, _, h => by simp at h
  | _, _, _, _, .cons r t, x, h => by
    rcases List.mem_append.mp h with h | h
    · exact OR.own r x h
    · exact OF.own t x h
end
mutual
/-- the cells stand, F grew -/
theorem OR.frame {K : PySem.W.Frag} {F H F' H' : Hp} (s0 : Same F F') : ∀ {s : Sh} {v : V} {d : D} {fp : List Addr}, OR K F H s v d fp → (∀ a ∈ fp, F' a = none ∧ H' a = H a) → OR K F' H' s v d fp
  | _, _, _, _, .leaf r, _ => .leaf (r.mono s0)
  | _, _, _, _, .exc e h, _ => .exc e (h.imp id fun ⟨dd, vs, h1, h2, h3⟩ => ⟨dd, vs, h1, s0 _ _ h2, h3.mono s0⟩)
  | _, _, _, _, .lst _ b r, h => .lst (h _ List.mem_cons_self).1 ((h _ List.mem_cons_self).2.trans b) (ORs.frame s0 r fun a m => h a (List.mem_cons_of_mem _ m))
  | _, _, _, _, .dK _ b e r, h => .dK (h _ List.mem_cons_self).1 ((h _ List.mem_cons_self).2.trans b) e (ORs.frame s0 r fun a m => h a (List.mem_cons_of_mem _ m))
  | _, _, _, _, .dT _ b e r, h => .dT (h _ List.mem_cons_self).1 ((h _ List.mem_cons_self).2.trans b) e (ORs.frame s0 r fun a m => h a (List.mem_cons_of_mem _ m))
  | _, _, _, _, .ins _ _ b b2 r, h => .ins (h _ List.mem_cons_self).1 (h _ (List.mem_cons_of_mem _ List.mem_cons_self)).1 ((h _ List.mem_cons_self).2.trans b) ((h _ (List.mem_cons_of_mem _ List.mem_cons_self)).2.trans b2) (OF.frame s0 r fun a m => h a (List.mem_cons_of_mem _ (List.mem_cons_of_mem _ m)))
theorem ORs.frame {K : PySem.W.Frag} {F H F' H' : Hp} (s0 : Same F F') : ∀ {s : Sh} {vs : List V} {ds : List D} {fp : List Addr}, ORs K F H s vs ds fp → (∀ a ∈ fp, F' a = none ∧ H' a = H a) → ORs K F' H' s vs ds fp
  | _, _, _, _, .nil, _ => .nil
  | _, _, _, _, .cons r t, h => .cons (OR.frame s0 r fun a m => h a (List.mem_append_left _ m)) (ORs.frame s0 t fun a m => h a (List.mem_append_right _ m))
theorem OF.frame {K : PySem.W.Frag} {F H F' H' : Hp} (s0 : Same F F') : ∀ {sf : List (Str × Sh)} {fv : List (Str × V)} {fd : List (Str × D)} {fp : List Addr}, OF K F H sf fv fd fp → (∀ a ∈ fp, F' a = none ∧ H' a = H a) → OF K F' H' sf fv fd fp
  | _, _, _, _, .nil, _ => .nil
  | _, _, _, _, .cons r t, h => .cons (OR.frame s0 r fun a m => h a (List.mem_append_left _ m)) (OF.frame s0 t fun a m => h a (List.mem_append_right _ m))
end
/-- F with the cells fp as H has them -/
def frz (F H : Hp) (fp : List Addr) : Hp := fun a => if a ∈ fp then H a else F a
theorem frz_in {F H : Hp} {fp : List Addr} {a : Addr} (h : a ∈ fp) : frz F H fp a = H a := by unfold frz; rw [if_pos h]
theorem frz_out {F H : Hp} {fp : List Addr} {a : Addr} (h : a ∉ fp) : frz F H fp a = F a := by unfold frz; rw [if_neg h]
theorem frz_same {F H : Hp} {fp : List Addr} (h : ∀ a ∈ fp, F a = none) : Same F (frz F H fp) := fun a o e => by
  rw [frz_out]
  · exact e
  · intro m; rw [h a m] at e; cases e
theorem frz_sub {F H : Hp} {fp : List Addr} (s : Same F H) : Same (frz F H fp) H := fun a o e => by
  by_cases m : a ∈ fp
  · rw [frz_in m] at e; exact e
  · rw [frz_out m] at e; exact s _ _ e
/-- a cell as it is frozen: a list as it is, a dict locked -/
def Frzd (u w : Option HO) : Prop := (∀ xs, u = some (.lst xs) → w = some (.lst xs)) ∧ (∀ kvs, u = some (.dK kvs) → ∃ o, w = some (.frz o (.dK kvs))) ∧ ∀ kvs, u = some (.dT kvs) → ∃ o, w = some (.frz o (.dT kvs))
mutual
theorem OR.frozen {K : PySem.W.Frag} {F H G : Hp} (s0 : Same F G) : ∀ {s : Sh} {v : V} {d : D} {fp : List Addr}, OR K F H s v d fp → (∀ a ∈ fp, Frzd (H a) (G a)) → Rep K G v d
  | _, _, _, _, .leaf r, _ => r.mono s0
  | _, _, _, _, .exc _ _, _ => .ob _ _ _
  | _, _, _, _, .lst _ b r, h => .lst ((h _ List.mem_cons_self).1 _ b) (ORs.frozen s0 r fun a m => h a (List.mem_cons_of_mem _ m))
  | _, _, _, _, .dK _ b e r, h => let ⟨_, q⟩ := (h _ List.mem_cons_self).2.1 _ b; .dK q e (ORs.frozen s0 r fun a m => h a (List.mem_cons_of_mem _ m))
  | _, _, _, _, .dT _ b e r, h => let ⟨_, q⟩ := (h _ List.mem_cons_self).2.2 _ b; .dT q e (ORs.frozen s0 r fun a m => h a (List.mem_cons_of_mem _ m))
  | _, _, _, _, .ins _ _ _ _ _, _ => .ob _ _ _
theorem ORs.frozen {K : PySem.W.Frag} {F H G : Hp} (s0 : Same F G) : ∀ {s : Sh} {vs : List V} {ds : List D} {fp : List Addr}, ORs K F H s vs ds fp → (∀ a ∈ fp, Frzd (H a) (G a)) → Reps K G vs ds
  | _, _, _, _, .nil, _ => .nil
  | _, _, _, _, .cons r t, h => .cons (OR.frozen s0 r fun a m => h a (List.mem_append_left _ m)) (ORs.frozen s0 t fun a m => h a (List.mem_append_right _ m))
end

/-! ### the slots -/
abbrev DEnv := List (Option D)
inductive RelL (K : PySem.W.Frag) (F H : Hp) : List Sh → DEnv → St → List Addr → Prop
  | nil : RelL K F H [] [] [] []
  | non {s : Sh} {ks : List Sh} {ρ : DEnv} {σ : St} {x : Option V} {fp : List Addr} : RelL K F H ks ρ σ fp → RelL K F H (s :: ks) (none :: ρ) (x :: σ) fp
  | som {s : Sh} {ks : List Sh} {ρ : DEnv} {σ : St} {v : V} {d : D} {f fp : List Addr} : OR K F H s v d f → RelL K F H ks ρ σ fp → RelL K F H (s :: ks) (some d :: ρ) (some v :: σ) (f ++ fp)
section
variable {K : PySem.W.Frag} {F H F' H' : Hp}
theorem RelL.own : ∀ {ks : List Sh} {ρ : DEnv} {σ : St} {fp : List Addr}, RelL K F H ks ρ σ fp → ∀ a ∈ fp, F a = none ∧ ∃ o, H a = some o
  | _, _, _, _, .nil, _, h => by simp at h
  | _, _, _, _, .non r, x, h => RelL.own r x h
  | _, _, _, _, .som r t, x, h => by
    rcases List.mem_append.mp h with h | h
    · exact r.own x h
    · exact RelL.own t x h
theorem RelL.frame (s0 : Same F F') : ∀ {ks : List Sh} {ρ : DEnv} {σ : St} {fp : List Addr}, RelL K F H ks ρ σ fp → (∀ a ∈ fp, F' a = none ∧ H' a = H a) → RelL K F' H' ks ρ σ fp
  | _, _, _, _, .nil, _ => .nil
  | _, _, _, _, .non r, h => .non (RelL.frame s0 r h)
  | _, _, _, _, .som r t, h => .som (r.frame s0 fun a m => h a (List.mem_append_left _ m)) (RelL.frame s0 t fun a m => h a (List.mem_append_right _ m))
theorem RelL.lens : ∀ {ks : List Sh} {ρ : DEnv} {σ : St} {fp : List Addr}, RelL K F H ks ρ σ fp → ks.length = ρ.length ∧ ρ.length = σ.length
  | _, _, _, _, .nil => ⟨rfl, rfl⟩
  | _, _, _, _, .non r => by obtain ⟨a, b⟩ := RelL.lens r; simp [a, b]
  | _, _, _, _, .som _ r => by obtain ⟨a, b⟩ := RelL.lens r; simp [a, b]
/-- a slot taken out -/
theorem RelL.split : ∀ {ks : List Sh} {ρ : DEnv} {σ : St} {fp : List Addr} {i : Nat} {s : Sh} {d : D}, RelL K F H ks ρ σ fp → ks[i]? = some s → ρ[i]? = some (some d) →
    ∃ v f g, σ[i]? = some (some v) ∧ OR K F H s v d f ∧ RelL K F H ks (ρ.set i none) σ g ∧ fp.Perm (f ++ g)
  | _, _, _, _, i, _, _, .nil, h, _ => by simp at h
  | _, _, _, _, 0, _, _, .non r, h, e => by simp at e
  | _, _, _, _, 0, _, _, .som (f := f) (fp := fp) o r, h, e => by
    simp at h e
    subst h e
    exact ⟨_, f, fp, rfl, o, .non r, .rfl⟩
  | _, _, _, _, i + 1, _, _, .non r, h, e => by
    obtain ⟨v, f, g, a, b, c, p⟩ := RelL.split (i := i) r (by simpa using h) (by simpa using e)
    exact ⟨v, f, g, by simpa using a, b, .non c, p⟩
  | _, _, _, _, i + 1, _, _, .som (f := f0) o r, h, e => by
    obtain ⟨v, f, g, a, b, c, p⟩ := RelL.split (i := i) r (by simpa using h) (by simpa using e)
    refine ⟨v, f, f0 ++ g, by simpa using a, b, .som o c, ?_⟩
    refine (List.Perm.append_left f0 p).trans ?_
    rw [← List.append_assoc, ← List.append_assoc]
    exact List.Perm.append_right g List.perm_append_comm
/-- a slot's data forgotten -/
theorem RelL.wipe1 : ∀ {ks : List Sh} {ρ : DEnv} {σ : St} {fp : List Addr} (i : Nat), RelL K F H ks ρ σ fp → ∃ g, RelL K F H ks (ρ.set i none) σ g ∧ g.Sublist fp
  | _, _, _, _, i, .nil => ⟨[], .nil, .refl _⟩
  | _, _, _, _, 0, .non r => ⟨_, .non r, .refl _⟩
  | _, _, _, _, 0, .som o r => ⟨_, .non r, List.sublist_append_right _ _⟩
  | _, _, _, _, i + 1, .non r => by
    obtain ⟨g, a, b⟩ := RelL.wipe1 i r
    exact ⟨g, .non a, b⟩
  | _, _, _, _, i + 1, .som o r => by
    obtain ⟨g, a, b⟩ := RelL.wipe1 i r
    exact ⟨_, .som o a, List.Sublist.append (.refl _) b⟩
/-- an empty slot of the frame may hold any value -/
theorem RelL.setV : ∀ {ks : List Sh} {ρ : DEnv} {σ : St} {fp : List Addr} (i : Nat) (x : Option V), RelL K F H ks (ρ.set i none) σ fp → RelL K F H ks (ρ.set i none) (σ.set i x) fp
  | _, [], _, _, i, x, r => by cases r; exact .nil
  | _, _ :: ρ, _, _, 0, x, r => by
    rw [List.set_cons_zero] at r ⊢
    cases r with | non r => exact .non r
  | _, _ :: ρ, _, _, i + 1, x, r => by
    rw [List.set_cons_succ] at r ⊢
    cases r with
    | non r => exact .non (RelL.setV i x r)
    | som o r => exact .som o (RelL.setV i x r)
/-- a slot filled -/
theorem RelL.join {s : Sh} {v : V} {d : D} {f : List Addr} (o : OR K F H s v d f) : ∀ {ks : List Sh} {ρ : DEnv} {σ : St} {g : List Addr} {i : Nat}, RelL K F H ks (ρ.set i none) σ g → ks[i]? = some s → σ[i]? = some (some v) →
    ∃ fp, RelL K F H ks (ρ.set i (some d)) σ fp ∧ fp.Perm (f ++ g)
  | _, [], _, _, i, r, h, e => by cases r; simp at h
  | _, _ :: ρ, _, _, 0, r, h, e => by
    rw [List.set_cons_zero] at r ⊢
    cases r with
    | non r =>
      simp at h e
      subst h e
      exact ⟨_, .som o r, .rfl⟩
  | _, _ :: ρ, _, _, i + 1, r, h, e => by
    rw [List.set_cons_succ] at r ⊢
    cases r with
    | non r =>
      obtain ⟨fp, a, b⟩ := RelL.join o (i := i) r (by simpa using h) (by simpa using e)
      exact ⟨fp, .non a, b⟩
    | som o' r =>
      rename_i f0 g0
      obtain ⟨fp, a, b⟩ := RelL.join o (i := i) r (by simpa using h) (by simpa using e)
      refine ⟨_, .som o' a, ?_⟩
      refine (List.Perm.append_left f0 b).trans ?_
      rw [← List.append_assoc, ← List.append_assoc]
      exact List.Perm.append_right g0 List.perm_append_comm
end
/-- F within H, with all tuples of H -/
structure Sub (F H : Hp) : Prop where
  sm : Same F H
  tp : ∀ a xs, H a = some (.tup xs) → F a = some (.tup xs)
instance {F H : Hp} : Coe (Sub F H) (Same F H) := ⟨Sub.sm⟩
instance {F H : Hp} : CoeFun (Sub F H) (fun _ => ∀ a o, F a = some o → H a = some o) := ⟨fun s => s.sm⟩
/-- the state: F within H, the slots -/
structure Rel (K : PySem.W.Frag) (ks : List Sh) (F H : Hp) (ρ : DEnv) (σ : St) (fp : List Addr) : Prop where
  sub : Sub F H
  nd : fp.Nodup
  sl : RelL K F H ks ρ σ fp
/-- what a step leaves: outside fp all stands, and F has grown by new cells alone; gp is of fp or new -/
structure Ext (F H : Hp) (fp : List Addr) (F' H' : Hp) (gp : List Addr) : Prop where
  keep : ∀ a o, H a = some o → a ∉ fp → H' a = some o ∧ F' a = F a
  fr : ∀ a ∈ gp, a ∈ fp ∨ H a = none
section
variable {F H F1 H1 F2 H2 : Hp} {fp f1 f2 g g' : List Addr}
theorem Ext.refl : Ext F H fp F H fp := ⟨fun _ _ e _ => ⟨e, rfl⟩, fun _ m => .inl m⟩
theorem Ext.trans (a : Ext F H fp F1 H1 f1) (b : Ext F1 H1 f1 F2 H2 f2) : Ext F H fp F2 H2 f2 := by
  have nin : ∀ {x : Addr} {o : HO}, H x = some o → x ∉ fp → x ∉ f1 := fun {x o} e n m => by
    rcases a.fr x m with z | z
    · exact n z
    · rw [z] at e; cases e
  refine ⟨fun x o e n => ?_, fun x m => ?_⟩
  · obtain ⟨p, q⟩ := a.keep x o e n
    obtain ⟨p', q'⟩ := b.keep x o p (nin e n)
    exact ⟨p', q'.trans q⟩
  · by_cases n : x ∈ fp
    · exact .inl n
    · refine .inr ?_
      rcases b.fr x m with z | z
      · exact (a.fr x z).resolve_left n
      · cases e : H x with
        | none => rfl
        | some o =>
          obtain ⟨p, _⟩ := a.keep x o e n
          rw [z] at p; cases p
theorem Ext.sub (a : Ext F H fp F1 H1 g) (h : ∀ x ∈ g', x ∈ g) : Ext F H fp F1 H1 g' := ⟨a.keep, fun x m => a.fr x (h x m)⟩
/-- F only grows -/
theorem Ext.same (a : Ext F H fp F1 H1 g) (s : Same F H) (o : ∀ x ∈ fp, F x = none) : Same F F1 := fun x y e => by
  obtain ⟨_, q⟩ := a.keep x y (s x y e) fun m => by rw [o x m] at e; cases e
  rw [q]; exact e
end
end VL
/-! V2: results, the judgements of soundness, views, the general rules. -/
namespace VL
open PySem PySem.Spec L2

/-- an exception: its class by name, its fields -/
structure Ex where
  c : Str
  fs : List (Str × D)
inductive R (α : Type) where
  | ok (a : α) (ρ : DEnv) | ex (e : Ex) (ρ : DEnv) | no
def R.bind {α β : Type} (r : R α) (f : α → DEnv → R β) : R β := match r with
  | .ok a ρ => f a ρ
  | .ex e ρ => .ex e ρ
  | .no => .no
@[simp] theorem R.bind_ok {α β : Type} (a : α) (ρ : DEnv) (f : α → DEnv → R β) : (R.ok a ρ).bind f = f a ρ := rfl
@[simp] theorem R.bind_ex {α β : Type} (e : Ex) (ρ : DEnv) (f : α → DEnv → R β) : (R.ex e ρ : R α).bind f = .ex e ρ := rfl
@[simp] theorem R.bind_no {α β : Type} (f : α → DEnv → R β) : (R.no : R α).bind f = .no := rfl
/-- a value or nothing -/
def R.of {α : Type} (o : Option α) (ρ : DEnv) : R α := match o with
  | some a => .ok a ρ
  | none => .no
@[simp] theorem R.of_some {α : Type} (a : α) (ρ : DEnv) : R.of (some a) ρ = .ok a ρ := rfl
@[simp] theorem R.of_none {α : Type} (ρ : DEnv) : (R.of none ρ : R α) = .no := rfl
abbrev ME := DEnv → R D
abbrev MT := DEnv → R Bool
abbrev MA := DEnv → R (List D)

/-- what stands fast in a def -/
structure Bd where
  K : PySem.W.Frag
  mg : Str → Option Value
  ks : List Sh
  W : WX
/-- an exception as it lies -/
def ExR (b : Bd) (F : Hp) (e : Ex) (cls : Value) (dx : Option Addr) : Prop :=
  ∃ C, b.mg e.c = some (.ref C) ∧ cls = .ref C ∧ (e.fs = [] ∧ dx = none ∨ ∃ d vs, dx = some d ∧ F d = some (.xd ((e.fs.map Prod.fst).zip vs)) ∧ Reps b.K F vs (e.fs.map Prod.snd))
/-- the exception's end -/
def OkX (b : Bd) (F H : Hp) (fp : List Addr) (σ : St) (e : Ex) (ρ' : DEnv) : Prop :=
  ∀ cls dx F' H' fp', Rel b.K b.ks F' H' ρ' σ fp' → Ext F H fp F' H' fp' → ExR b F' e cls dx → b.W cls dx σ H'
def OkE (b : Bd) (sh : Sh) (F H : Hp) (fp : List Addr) (σ : St) (Q : VK) : R D → Prop
  | .no => False
  | .ok d ρ' => ∀ v F' H' fp' fv, Rel b.K b.ks F' H' ρ' σ fp' → (fp' ++ fv).Nodup → Ext F H fp F' H' (fp' ++ fv) → OR b.K F' H' sh v d fv → Q v H'
  | .ex e ρ' => OkX b F H fp σ e ρ'
def OkT (b : Bd) (F H : Hp) (fp : List Addr) (σ : St) (Q : Bool → Hp → Prop) : R Bool → Prop
  | .no => False
  | .ok c ρ' => ∀ F' H' fp', Rel b.K b.ks F' H' ρ' σ fp' → Ext F H fp F' H' fp' → Q c H'
  | .ex e ρ' => OkX b F H fp σ e ρ'
def OkA (b : Bd) (F H : Hp) (fp : List Addr) (σ : St) (Q : List V → Hp → Prop) : R (List D) → Prop
  | .no => False
  | .ok ds ρ' => ∀ vs F' H' fp', Rel b.K b.ks F' H' ρ' σ fp' → Ext F H fp F' H' fp' → Reps b.K F' vs ds → Q vs H'
  | .ex e ρ' => OkX b F H fp σ e ρ'
/-- an operand: a value, or the owned thing of a slot (its data is looked up when it is used) -/
inductive Opd where
  | v (d : D) | s (i : Nat)
abbrev MO := DEnv → R Opd
def Opd.get : Opd → DEnv → Option D
  | .v d, _ => some d
  | .s i, ρ => (ρ[i]?).bind id
def OpdOk (b : Bd) (F : Hp) (σ : St) (x : V) : Opd → Prop
  | .v d => Rep b.K F x d
  | .s i => σ[i]? = some (some x) ∧ (b.ks[i]? = some (.lst .leaf) ∨ b.ks[i]? = some (.dic .leaf))
def OkO (b : Bd) (F H : Hp) (fp : List Addr) (σ : St) (Q : VK) : R Opd → Prop
  | .no => False
  | .ok o ρ' => ∀ v F' H' fp', Rel b.K b.ks F' H' ρ' σ fp' → Ext F H fp F' H' fp' → OpdOk b F' σ v o → Q v H'
  | .ex e ρ' => OkX b F H fp σ e ρ'
def OkOs (b : Bd) (F H : Hp) (fp : List Addr) (σ : St) (Q : List V → Hp → Prop) : R (List Opd) → Prop
  | .no => False
  | .ok os ρ' => ∀ vs F' H' fp', Rel b.K b.ks F' H' ρ' σ fp' → Ext F H fp F' H' fp' → Paired (fun o v => OpdOk b F' σ v o) os vs → Q vs H'
  | .ex e ρ' => OkX b F H fp σ e ρ'

def SndE (b : Bd) (sh : Sh) (t : TE) (m : ME) : Prop := ∀ ρ σ F H fp Q, Rel b.K b.ks F H ρ σ fp → OkE b sh F H fp σ Q (m ρ) → t σ H Q
def SndT (b : Bd) (t : TT) (m : MT) : Prop := ∀ ρ σ F H fp Q, Rel b.K b.ks F H ρ σ fp → OkT b F H fp σ Q (m ρ) → t σ H Q
def SndA (b : Bd) (t : TA) (m : MA) : Prop := ∀ ρ σ F H fp Q, Rel b.K b.ks F H ρ σ fp → OkA b F H fp σ Q (m ρ) → t σ H Q
def SndO (b : Bd) (t : TE) (m : MO) : Prop := ∀ ρ σ F H fp Q, Rel b.K b.ks F H ρ σ fp → OkO b F H fp σ Q (m ρ) → t σ H Q
def SndOs (b : Bd) (t : TA) (m : DEnv → R (List Opd)) : Prop := ∀ ρ σ F H fp Q, Rel b.K b.ks F H ρ σ fp → OkOs b F H fp σ Q (m ρ) → t σ H Q

section
variable {b : Bd} {sh : Sh} {F H F1 H1 : Hp} {fp f1 : List Addr} {σ : St}
theorem OkX.ext {e : Ex} {ρ' : DEnv} (a : Ext F H fp F1 H1 f1) (h : OkX b F H fp σ e ρ') : OkX b F1 H1 f1 σ e ρ' := fun cls dx F' H' fp' r x => h cls dx F' H' fp' r (a.trans x)
theorem OkE.ext {Q : VK} (a : Ext F H fp F1 H1 f1) : ∀ {r : R D}, OkE b sh F H fp σ Q r → OkE b sh F1 H1 f1 σ Q r
  | .no, h => h
  | .ok d ρ', h => fun v F' H' fp' fv r n x o => h v F' H' fp' fv r n (a.trans x) o
  | .ex e ρ', h => OkX.ext a h
theorem OkT.ext {Q : Bool → Hp → Prop} (a : Ext F H fp F1 H1 f1) : ∀ {r : R Bool}, OkT b F H fp σ Q r → OkT b F1 H1 f1 σ Q r
  | .no, h => h
  | .ok d ρ', h => fun F' H' fp' r x => h F' H' fp' r (a.trans x)
  | .ex e ρ', h => OkX.ext a h
theorem OkA.ext {Q : List V → Hp → Prop} (a : Ext F H fp F1 H1 f1) : ∀ {r : R (List D)}, OkA b F H fp σ Q r → OkA b F1 H1 f1 σ Q r
  | .no, h => h
  | .ok d ρ', h => fun v F' H' fp' r x => h v F' H' fp' r (a.trans x)
  | .ex e ρ', h => OkX.ext a h
theorem OkO.ext {Q : VK} (a : Ext F H fp F1 H1 f1) : ∀ {r : R Opd}, OkO b F H fp σ Q r → OkO b F1 H1 f1 σ Q r
  | .no, h => h
  | .ok d ρ', h => fun v F' H' fp' r x => h v F' H' fp' r (a.trans x)
  | .ex e ρ', h => OkX.ext a h
theorem OkOs.ext {Q : List V → Hp → Prop} (a : Ext F H fp F1 H1 f1) : ∀ {r : R (List Opd)}, OkOs b F H fp σ Q r → OkOs b F1 H1 f1 σ Q r
  | .no, h => h
  | .ok d ρ', h => fun v F' H' fp' r x => h v F' H' fp' r (a.trans x)
  | .ex e ρ', h => OkX.ext a h
theorem Rel.same {K : PySem.W.Frag} {ks : List Sh} {ρ : DEnv} (r : Rel K ks F H ρ σ fp) (a : Ext F H fp F1 H1 f1) : Same F F1 := a.same r.sub fun x m => (r.sl.own x m).1
theorem OpdOk.mono {v : V} (s : Same F F1) : ∀ {o : Opd}, OpdOk b F σ v o → OpdOk b F1 σ v o
  | .v d, h => Rep.mono s h
  | .s i, h => h
end

/-! ### one step, then another -/
section
variable {b : Bd} {t : TE} {ρ : DEnv} {σ : St} {F H : Hp} {fp : List Addr} {P : VK}
theorem SndE.go {m : ME} (h : SndE b .leaf t m) (r : Rel b.K b.ks F H ρ σ fp) {α : Type} {f : D → DEnv → R α} {Ok : R α → Prop} (hok : Ok ((m ρ).bind f)) (hn : ¬ Ok .no) (hx : ∀ e ρ1, Ok (.ex e ρ1) → OkX b F H fp σ e ρ1)
    (k : ∀ d ρ1 v F1 H1 fp1, Ok (f d ρ1) → Rel b.K b.ks F1 H1 ρ1 σ fp1 → Ext F H fp F1 H1 fp1 → Rep b.K F1 v d → P v H1) : t σ H P := by
  refine h ρ σ F H fp P r ?_
  cases e : m ρ with
  | no => rw [e] at hok; exact (hn hok).elim
  | ex x ρ1 => rw [e] at hok; exact hx _ _ hok
  | ok d ρ1 =>
    rw [e] at hok
    intro v F1 H1 fp1 fv r1 nd x1 o1
    obtain ⟨rp, rfl⟩ := o1.leafE
    rw [List.append_nil] at x1
    exact k d ρ1 v F1 H1 fp1 hok r1 x1 rp
theorem SndO.go {m : MO} (h : SndO b t m) (r : Rel b.K b.ks F H ρ σ fp) {α : Type} {f : Opd → DEnv → R α} {Ok : R α → Prop} (hok : Ok ((m ρ).bind f)) (hn : ¬ Ok .no) (hx : ∀ e ρ1, Ok (.ex e ρ1) → OkX b F H fp σ e ρ1)
    (k : ∀ o ρ1 v F1 H1 fp1, Ok (f o ρ1) → Rel b.K b.ks F1 H1 ρ1 σ fp1 → Ext F H fp F1 H1 fp1 → OpdOk b F1 σ v o → P v H1) : t σ H P := by
  refine h ρ σ F H fp P r ?_
  cases e : m ρ with
  | no => rw [e] at hok; exact (hn hok).elim
  | ex x ρ1 => rw [e] at hok; exact hx _ _ hok
  | ok d ρ1 =>
    rw [e] at hok
    intro v F1 H1 fp1 r1 x1 o1
    exact k d ρ1 v F1 H1 fp1 hok r1 x1 o1
end
section
variable {b : Bd} {ρ : DEnv} {σ : St} {F H : Hp} {fp : List Addr}
theorem SndT.go {t : TT} {P : Bool → Hp → Prop} {m : MT} (h : SndT b t m) (r : Rel b.K b.ks F H ρ σ fp) {α : Type} {f : Bool → DEnv → R α} {Ok : R α → Prop} (hok : Ok ((m ρ).bind f)) (hn : ¬ Ok .no) (hx : ∀ e ρ1, Ok (.ex e ρ1) → OkX b F H fp σ e ρ1)
    (k : ∀ c ρ1 F1 H1 fp1, Ok (f c ρ1) → Rel b.K b.ks F1 H1 ρ1 σ fp1 → Ext F H fp F1 H1 fp1 → P c H1) : t σ H P := by
  refine h ρ σ F H fp P r ?_
  cases e : m ρ with
  | no => rw [e] at hok; exact (hn hok).elim
  | ex x ρ1 => rw [e] at hok; exact hx _ _ hok
  | ok d ρ1 =>
    rw [e] at hok
    intro F1 H1 fp1 r1 x1
    exact k d ρ1 F1 H1 fp1 hok r1 x1
theorem SndA.go {t : TA} {P : List V → Hp → Prop} {m : MA} (h : SndA b t m) (r : Rel b.K b.ks F H ρ σ fp) {α : Type} {f : List D → DEnv → R α} {Ok : R α → Prop} (hok : Ok ((m ρ).bind f)) (hn : ¬ Ok .no) (hx : ∀ e ρ1, Ok (.ex e ρ1) → OkX b F H fp σ e ρ1)
    (k : ∀ ds ρ1 vs F1 H1 fp1, Ok (f ds ρ1) → Rel b.K b.ks F1 H1 ρ1 σ fp1 → Ext F H fp F1 H1 fp1 → Reps b.K F1 vs ds → P vs H1) : t σ H P := by
  refine h ρ σ F H fp P r ?_
  cases e : m ρ with
  | no => rw [e] at hok; exact (hn hok).elim
  | ex x ρ1 => rw [e] at hok; exact hx _ _ hok
  | ok d ρ1 =>
    rw [e] at hok
    intro v F1 H1 fp1 r1 x1 o1
    exact k d ρ1 v F1 H1 fp1 hok r1 x1 o1
theorem SndOs.go {t : TA} {P : List V → Hp → Prop} {m : DEnv → R (List Opd)} (h : SndOs b t m) (r : Rel b.K b.ks F H ρ σ fp) {α : Type} {f : List Opd → DEnv → R α} {Ok : R α → Prop} (hok : Ok ((m ρ).bind f)) (hn : ¬ Ok .no) (hx : ∀ e ρ1, Ok (.ex e ρ1) → OkX b F H fp σ e ρ1)
    (k : ∀ ds ρ1 vs F1 H1 fp1, Ok (f ds ρ1) → Rel b.K b.ks F1 H1 ρ1 σ fp1 → Ext F H fp F1 H1 fp1 → Paired (fun o v => OpdOk b F1 σ v o) ds vs → P vs H1) : t σ H P := by
  refine h ρ σ F H fp P r ?_
  cases e : m ρ with
  | no => rw [e] at hok; exact (hn hok).elim
  | ex x ρ1 => rw [e] at hok; exact hx _ _ hok
  | ok d ρ1 =>
    rw [e] at hok
    intro v F1 H1 fp1 r1 x1 o1
    exact k d ρ1 v F1 H1 fp1 hok r1 x1 o1
end

/-! ### views: a value as it is read now; its parts in F -/
inductive Vw (K : PySem.W.Frag) (F H : Hp) : V → D → Prop
  | rep {v : V} {d : D} : Rep K F v d → Vw K F H v d
  | lst {p : Addr} {vs : List V} {ds : List D} : H p = some (.lst vs) → Reps K F vs ds → Vw K F H (.ref p) (.lst ds)
  | dK {p : Addr} {kvs : List (Key × V)} {ds : List (Key × D)} : H p = some (.dK kvs) → kvs.map Prod.fst = ds.map Prod.fst → Reps K F (kvs.map Prod.snd) (ds.map Prod.snd) → Vw K F H (.ref p) (.dK ds)
  | dT {p : Addr} {kvs : List (List Key × V)} {ds : List (List Key × D)} : H p = some (.dT kvs) → kvs.map Prod.fst = ds.map Prod.fst → Reps K F (kvs.map Prod.snd) (ds.map Prod.snd) → Vw K F H (.ref p) (.dT ds)
/-- no dict -/
def D.nod : D → Bool
  | .dK _ => false
  | .dT _ => false
  | _ => true
theorem Vw.whole {K : PySem.W.Frag} {F H : Hp} (s : Sub F H) {v : V} {d : D} (h : Vw K F H v d) (nd : d.nod = true) : Rep K H v d := by
  cases h with
  | rep r => exact r.mono s
  | lst e r => exact .lst e (r.mono s)
  | dK e k r => cases nd
  | dT e k r => cases nd
theorem Vw.lstE {K : PySem.W.Frag} {F H : Hp} (s : Sub F H) {v : V} {ds : List D} (h : Vw K F H v (.lst ds)) : ∃ p vs, v = .ref p ∧ H p = some (.lst vs) ∧ Reps K F vs ds := by
  cases h with
  | rep r => cases r with | lst e r => exact ⟨_, _, rfl, s _ _ e, r⟩
  | lst e r => exact ⟨_, _, rfl, e, r⟩
theorem Vw.keyE {K : PySem.W.Frag} {F H : Hp} {v : V} {ks : List Key} (h : Vw K F H v (.key ks)) : ∃ p, v = .ref p ∧ F p = some (.tup (ks.map kV)) ∧ ks.all ascK = true := by
  cases h with
  | rep r => cases r with | key e r => exact ⟨_, rfl, e, r⟩
theorem Vw.tupE {K : PySem.W.Frag} {F H : Hp} {v : V} {ds : List D} (h : Vw K F H v (.tup ds)) : ∃ p vs, v = .ref p ∧ TupF F p vs ∧ Reps K F vs ds := by
  cases h with
  | rep r => cases r with | tup e r => exact ⟨_, _, rfl, e, r⟩
theorem Vw.strE {K : PySem.W.Frag} {F H : Hp} {v : V} {x : Str} (h : Vw K F H v (.str x)) : v = .str x ∧ asc x = true := by
  cases h with
  | rep r => cases r with | str _ e => exact ⟨rfl, e⟩
theorem Vw.intE {K : PySem.W.Frag} {F H : Hp} {v : V} {x : Int} (h : Vw K F H v (.int x)) : v = .int x := by
  cases h with
  | rep r => cases r; rfl
theorem Vw.blE {K : PySem.W.Frag} {F H : Hp} {v : V} {x : Bool} (h : Vw K F H v (.bl x)) : v = .bl x := by
  cases h with
  | rep r => cases r; rfl
theorem Vw.nonE {K : PySem.W.Frag} {F H : Hp} {v : V} (h : Vw K F H v .non) : v = .non := by
  cases h with
  | rep r => cases r; rfl
theorem Vw.scrE {K : PySem.W.Frag} {F H : Hp} {v : V} {ns : List Int} (s : Sub F H) (h : Vw K F H v (.scr ns)) : ∃ p, v = .ref p ∧ SqL K H p (ns.map V.int) := by
  cases h with
  | rep r => cases r with | scr e => exact ⟨_, rfl, Same.seq s e⟩
theorem Vw.dKE {K : PySem.W.Frag} {F H : Hp} (s : Sub F H) {v : V} {ds : List (Key × D)} (h : Vw K F H v (.dK ds)) : ∃ p kvs, v = .ref p ∧ Rd H p (.dK kvs) ∧ kvs.map Prod.fst = ds.map Prod.fst ∧ Reps K F (kvs.map Prod.snd) (ds.map Prod.snd) := by
  cases h with
  | rep r => cases r with | dK e k r => exact ⟨_, _, rfl, .inr ⟨_, s _ _ e⟩, k, r⟩
  | dK e k r => exact ⟨_, _, rfl, .inl e, k, r⟩
theorem Vw.dTE {K : PySem.W.Frag} {F H : Hp} (s : Sub F H) {v : V} {ds : List (List Key × D)} (h : Vw K F H v (.dT ds)) : ∃ p kvs, v = .ref p ∧ Rd H p (.dT kvs) ∧ kvs.map Prod.fst = ds.map Prod.fst ∧ Reps K F (kvs.map Prod.snd) (ds.map Prod.snd) := by
  cases h with
  | rep r => cases r with | dT e k r => exact ⟨_, _, rfl, .inr ⟨_, s _ _ e⟩, k, r⟩
  | dT e k r => exact ⟨_, _, rfl, .inl e, k, r⟩
/-- an operand is viewed -/
theorem OpdOk.vw {b : Bd} {F H : Hp} {ρ : DEnv} {σ : St} {fp : List Addr} {v : V} {o : Opd} {d : D} (h : OpdOk b F σ v o) (r : Rel b.K b.ks F H ρ σ fp) (e : o.get ρ = some d) : Vw b.K F H v d := by
  cases o with
  | v x => cases e; exact .rep h
  | s i =>
    obtain ⟨e1, e2⟩ := h
    have e3 : ρ[i]? = some (some d) := by
      have q : (ρ[i]?).bind id = some d := e
      cases z : ρ[i]? with
      | none => rw [z] at q; cases q
      | some y => rw [z] at q; have q' : y = some d := q; rw [q']
    rcases e2 with e2 | e2
    · obtain ⟨w, f, g, s1, o1, _, _⟩ := r.sl.split e2 e3
      rw [e1] at s1; cases s1
      cases o1 with
      | lst a c q => obtain ⟨q1, _⟩ := q.leafE; exact .lst c q1
    · obtain ⟨w, f, g, s1, o1, _, _⟩ := r.sl.split e2 e3
      rw [e1] at s1; cases s1
      cases o1 with
      | dK a c k q => obtain ⟨q1, _⟩ := q.leafE; exact .dK c k q1
      | dT a c k q => obtain ⟨q1, _⟩ := q.leafE; exact .dT c k q1

/-! ### operations by values: only new cells are laid -/
structure Alc (F H F' H' : Hp) : Prop where
  sub : Sub F' H'
  keep : ∀ a o, H a = some o → H' a = some o ∧ F' a = F a
def OkV (K : PySem.W.Frag) (sh : Sh) (F H : Hp) (Q : VK) (z : D) : Prop :=
  ∀ v F' H' fv, Alc F H F' H' → (∀ a ∈ fv, H a = none) → fv.Nodup → OR K F' H' sh v z fv → Q v H'
section
variable {K : PySem.W.Frag} {sh : Sh} {F H : Hp} {Q : VK} {z : D}
theorem Alc.refl (s : Sub F H) : Alc F H F H := ⟨s, fun _ _ e => ⟨e, rfl⟩⟩
theorem Alc.same {F' H' : Hp} (a : Alc F H F' H') (s : Sub F H) : Same F F' := fun x o e => by rw [(a.keep x o (s _ _ e)).2]; exact e
theorem OkV.here (s : Sub F H) (h : OkV K .leaf F H Q z) {v : V} (r : Rep K F v z) : Q v H := h v F H [] (.refl s) (fun _ m => by simp at m) List.nodup_nil (.leaf r)
theorem sub_upd {p : Addr} {o : HO} (s : Sub F H) : Sub (upd F p o) (upd H p o) := by
  refine ⟨fun a x e => ?_, fun a x e => ?_⟩
  · by_cases m : a = p
    · subst m; rw [upd_same] at e ⊢; exact e
    · rw [upd_ne m] at e ⊢; exact s _ _ e
  · by_cases m : a = p
    · subst m; rw [upd_same] at e ⊢; exact e
    · rw [upd_ne m] at e ⊢; exact s.tp _ _ e
theorem sub_updH {p : Addr} {o : HO} (s : Sub F H) (n : F p = none) (nt : ∀ xs, o ≠ .tup xs) : Sub F (upd H p o) := by
  refine ⟨fun a x e => ?_, fun a x e => ?_⟩
  · have m : a ≠ p := fun z => by rw [z, n] at e; cases e
    rw [upd_ne m]; exact s _ _ e
  · by_cases m : a = p
    · subst m; rw [upd_same] at e; exact absurd (Option.some.inj e) (nt _)
    · rw [upd_ne m] at e; exact s.tp _ _ e
theorem sub_none {p : Addr} (s : Sub F H) (n : H p = none) : F p = none := by
  cases e : F p with
  | none => rfl
  | some y => have q := s _ _ e; rw [n] at q; cases q
theorem upd_alc {p : Addr} {o : HO} (s : Sub F H) (n : H p = none) : Alc F H (upd F p o) (upd H p o) := by
  have nF : F p = none := by
    cases e : F p with
    | none => rfl
    | some y => have q := s _ _ e; rw [n] at q; cases q
  refine ⟨sub_upd s, fun a x e => ?_⟩
  · have m : a ≠ p := fun z => by rw [z, n] at e; cases e
    rw [upd_ne m, upd_ne m]; exact ⟨e, rfl⟩
theorem upd_alcH {p : Addr} {o : HO} (s : Sub F H) (n : H p = none) (nt : ∀ xs, o ≠ .tup xs := by intro _ z; cases z) : Alc F H F (upd H p o) := by
  refine ⟨sub_updH s (sub_none s n) nt, fun a x e => ?_⟩
  · have m : a ≠ p := fun z => by rw [z, n] at e; cases e
    rw [upd_ne m]; exact ⟨e, rfl⟩
/-- a new tuple, frozen -/
theorem OkV.newT (s : Sub F H) {ds : List D} {vs : List V} (h : OkV K .leaf F H Q (.tup ds)) (r : Reps K F vs ds) {p : Addr} {us : List Value} (n : H p = none) : Q (.ref p) (upd H p (tupC us vs)) := by
  have a := upd_alc (o := tupC us vs) s n
  exact h _ _ _ [] a (fun _ m => by simp at m) List.nodup_nil (.leaf (.tup ⟨us, upd_same⟩ (r.mono (a.same s))))
theorem OkV.newLf (s : Sub F H) {ds : List D} {vs : List V} (h : OkV K .leaf F H Q (.lst ds)) (r : Reps K F vs ds) {p : Addr} (n : H p = none) : Q (.ref p) (upd H p (.lst vs)) := by
  have a := upd_alc (o := .lst vs) s n
  exact h _ _ _ [] a (fun _ m => by simp at m) List.nodup_nil (.leaf (.lst upd_same (r.mono (a.same s))))
/-- a new list, owned -/
theorem OkV.newL (s : Sub F H) {ds : List D} {vs : List V} (h : OkV K (.lst .leaf) F H Q (.lst ds)) (r : Reps K F vs ds) {p : Addr} (n : H p = none) : Q (.ref p) (upd H p (.lst vs)) := by
  have a := upd_alcH (o := .lst vs) s n
  have nF : F p = none := by
    cases e : F p with
    | none => rfl
    | some y => have q := s _ _ e; rw [n] at q; cases q
  exact h _ _ _ [p] a (fun x m => by simp at m; subst m; exact n) (by simp) (.lst nF upd_same (ORs.ofReps r))
end
/-- the state behind an operation -/
theorem Alc.rel {K : PySem.W.Frag} {ks : List Sh} {ρ : DEnv} {σ : St} {F H F' H' : Hp} {fp fv : List Addr} (r : Rel K ks F H ρ σ fp) (a : Alc F H F' H') (n : ∀ x ∈ fv, H x = none) (nd : fv.Nodup) :
    Rel K ks F' H' ρ σ fp ∧ (fp ++ fv).Nodup ∧ Ext F H fp F' H' (fp ++ fv) := by
  refine ⟨⟨a.sub, r.nd, r.sl.frame (a.same r.sub) fun x m => ?_⟩, ?_, ⟨fun x o e _ => a.keep x o e, fun x m => ?_⟩⟩
  · obtain ⟨h1, o, h2⟩ := r.sl.own x m
    obtain ⟨k1, k2⟩ := a.keep x o h2
    exact ⟨k2.trans h1, k1.trans h2.symm⟩
  · refine List.nodup_append.mpr ⟨r.nd, nd, fun x m y m' z => ?_⟩
    subst z
    obtain ⟨_, o, h2⟩ := r.sl.own x m
    rw [n x m'] at h2; cases h2
  · rcases List.mem_append.mp m with m | m
    · exact .inl m
    · exact .inr (n x m)
theorem OkE.done {b : Bd} {sh : Sh} {F H : Hp} {fp : List Addr} {σ : St} {Q : VK} {z : D} {ρ : DEnv} (h : OkE b sh F H fp σ Q (.ok z ρ)) (r : Rel b.K b.ks F H ρ σ fp) : OkV b.K sh F H Q z := fun v F' H' fv a n nd o => by
  obtain ⟨r', nd', x'⟩ := a.rel r n nd
  exact h v F' H' fp fv r' nd' x' o
/-- one, two operands; a list of operands -/
def Op1 (K : PySem.W.Frag) (sh : Sh) (r : V → Hp → VK → Prop) (f : D → Option D) : Prop := ∀ F H x d z Q, Sub F H → Vw K F H x d → f d = some z → OkV K sh F H Q z → r x H Q
def Op2 (K : PySem.W.Frag) (sh : Sh) (r : R2) (f : D → D → Option D) : Prop := ∀ F H x y d e z Q, Sub F H → Vw K F H x d → Vw K F H y e → f d e = some z → OkV K sh F H Q z → r x y H Q
def OpN (K : PySem.W.Frag) (sh : Sh) (r : List V → Hp → VK → Prop) (f : List D → Option D) : Prop := ∀ F H xs ds z Q, Sub F H → Paired (fun d x => Vw K F H x d) ds xs → f ds = some z → OkV K sh F H Q z → r xs H Q
def mOp1 (f : D → Option D) (a : MO) : ME := fun ρ => (a ρ).bind fun x ρ1 => R.of ((x.get ρ1).bind f) ρ1
def mOp2 (f : D → D → Option D) (a b : MO) : ME := fun ρ => (a ρ).bind fun x ρ1 => (b ρ1).bind fun y ρ2 => R.of ((x.get ρ2).bind fun d => (y.get ρ2).bind fun e => f d e) ρ2
def getAll : List Opd → DEnv → Option (List D)
  | [], _ => some []
  | o :: os, ρ => (o.get ρ).bind fun d => (getAll os ρ).bind fun ds => some (d :: ds)
def mOpN (f : List D → Option D) (a : DEnv → R (List Opd)) : ME := fun ρ => (a ρ).bind fun xs ρ1 => R.of ((getAll xs ρ1).bind f) ρ1
section
variable {b : Bd} {sh : Sh} {ta tb : TE}
theorem snd_op1 {r : V → Hp → VK → Prop} {f : D → Option D} {a : MO} (ho : Op1 b.K sh r f) (ha : SndO b ta a) : SndE b sh (tUn r ta) (mOp1 f a) := by
  intro ρ σ F H fp Q r0 hok
  refine ha.go r0 (Ok := OkE b sh F H fp σ Q) hok (fun z => z) (fun _ _ z => z) fun x ρ1 v F1 H1 fp1 h1 r1 x1 o1 => ?_
  cases e1 : x.get ρ1 with
  | none => rw [e1] at h1; exact (show False from h1).elim
  | some d =>
    rw [e1] at h1
    cases e2 : f d with
    | none => rw [Option.bind_some, e2] at h1; exact (show False from h1).elim
    | some z =>
      rw [Option.bind_some, e2] at h1
      exact ho F1 H1 v d z Q r1.sub (o1.vw r1 e1) e2 ((h1.ext x1).done r1)
theorem snd_op2 {r : R2} {f : D → D → Option D} {a c : MO} (ho : Op2 b.K sh r f) (ha : SndO b ta a) (hc : SndO b tb c) : SndE b sh (tOp r ta tb) (mOp2 f a c) := by
  intro ρ σ F H fp Q r0 hok
  refine ha.go r0 (Ok := OkE b sh F H fp σ Q) hok (fun z => z) (fun _ _ z => z) fun x ρ1 v F1 H1 fp1 h1 r1 x1 o1 => ?_
  refine hc.go r1 (Ok := OkE b sh F1 H1 fp1 σ Q) (h1.ext x1) (fun z => z) (fun _ _ z => z) fun y ρ2 u F2 H2 fp2 h2 r2 x2 o2 => ?_
  have o1' := o1.mono (r1.same x2)
  cases e1 : x.get ρ2 with
  | none => rw [e1] at h2; exact (show False from h2).elim
  | some d =>
    cases e2 : y.get ρ2 with
    | none => rw [e1, e2] at h2; exact (show False from h2).elim
    | some e =>
      cases e3 : f d e with
      | none => rw [e1, e2, Option.bind_some, Option.bind_some, e3] at h2; exact (show False from h2).elim
      | some z =>
        rw [e1, e2, Option.bind_some, Option.bind_some, e3] at h2
        exact ho F2 H2 v u d e z Q r2.sub (o1'.vw r2 e1) (o2.vw r2 e2) e3 ((h2.ext x2).done r2)
theorem getAll_vw {F H : Hp} {ρ : DEnv} {σ : St} {fp : List Addr} (r : Rel b.K b.ks F H ρ σ fp) : ∀ {os : List Opd} {vs : List V} {ds : List D}, Paired (fun o v => OpdOk b F σ v o) os vs → getAll os ρ = some ds → Paired (fun d x => Vw b.K F H x d) ds vs
  | _, _, _, .nil, e => by cases e; exact .nil
  | o :: os, _, ds, .cons h t, e => by
    have e' : ((o.get ρ).bind fun d => (getAll os ρ).bind fun ds => some (d :: ds)) = some ds := e
    cases e1 : o.get ρ with
    | none => rw [e1] at e'; cases e'
    | some d =>
      cases e2 : getAll os ρ with
      | none => rw [e1, e2] at e'; cases e'
      | some es =>
        rw [e1, e2] at e'
        have e3 : d :: es = ds := Option.some.inj e'
        subst e3
        exact .cons (h.vw r e1) (getAll_vw r t e2)
theorem snd_opN {r : List V → Hp → VK → Prop} {f : List D → Option D} {t : TA} {a : DEnv → R (List Opd)} (ho : OpN b.K sh r f) (ha : SndOs b t a) : SndE b sh (tCB r t) (mOpN f a) := by
  intro ρ σ F H fp Q r0 hok
  refine ha.go r0 (Ok := OkE b sh F H fp σ Q) hok (fun z => z) (fun _ _ z => z) fun xs ρ1 vs F1 H1 fp1 h1 r1 x1 o1 => ?_
  cases e1 : getAll xs ρ1 with
  | none => rw [e1] at h1; exact (show False from h1).elim
  | some ds =>
    rw [e1] at h1
    cases e2 : f ds with
    | none => rw [Option.bind_some, e2] at h1; exact (show False from h1).elim
    | some z =>
      rw [Option.bind_some, e2] at h1
      exact ho F1 H1 vs ds z Q r1.sub (getAll_vw r1 o1 e1) e2 ((h1.ext x1).done r1)
end
end VL
/-! V3: expressions. -/
namespace VL
open PySem PySem.Spec L2

abbrev bd (X : Cx) (ks : List Sh) (W : WX) : Bd := ⟨X.K, X.mg, ks, W⟩
structure EV (X : Cx) (ks : List Sh) (W : WX) (e : Expr) (sh : Sh) (t : TE) (m : ME) : Prop where
  pe : PE X e t
  sd : SndE (bd X ks W) sh t m
structure EO (X : Cx) (ks : List Sh) (W : WX) (e : Expr) (t : TE) (m : MO) : Prop where
  pe : PE X e t
  sd : SndO (bd X ks W) t m
structure ET (X : Cx) (ks : List Sh) (W : WX) (e : Expr) (t : TT) (m : MT) : Prop where
  pe : PT X e t
  sd : SndT (bd X ks W) t m
structure EW (X : Cx) (ks : List Sh) (W : WX) (e : Expr) (t : TT) (m : MT) : Prop where
  pe : PW X e t
  sd : SndT (bd X ks W) t m
structure EA (X : Cx) (ks : List Sh) (W : WX) (es : List Expr) (t : TA) (m : MA) : Prop where
  pe : PA X es t
  sd : SndA (bd X ks W) t m
structure EOs (X : Cx) (ks : List Sh) (W : WX) (es : List Expr) (t : TA) (m : DEnv → R (List Opd)) : Prop where
  pe : PA X es t
  sd : SndOs (bd X ks W) t m

section
variable {X : Cx} {ks : List Sh} {W : WX} {e a c : Expr} {es : List Expr} {t ta tc : TE} {m : ME} {pos : Pos} {sh : Sh}

/-! ### names, constants -/
def mVar (i : Nat) : ME := fun ρ => R.of ((ρ[i]?).bind id) ρ
def mC (d : D) : ME := fun ρ => .ok d ρ
def mOwn (i : Nat) : MO := fun ρ => .ok (.s i) ρ
theorem getE {ρ : DEnv} {i : Nat} {d : D} (h : (ρ[i]?).bind id = some d) : ρ[i]? = some (some d) := by
  cases z : ρ[i]? with
  | none => rw [z] at h; cases h
  | some y => rw [z] at h; have q' : y = some d := h; rw [q']
theorem snd_var {b : Bd} {i : Nat} (hk : b.ks[i]? = some .leaf) : SndE b .leaf (tVar i) (mVar i) := by
  intro ρ σ F H fp Q r h
  unfold mVar at h
  cases e : (ρ[i]?).bind id with
  | none => rw [e] at h; exact (show False from h).elim
  | some d =>
    rw [e] at h
    obtain ⟨v, f, g, s1, o1, _, _⟩ := r.sl.split hk (getE e)
    obtain ⟨q, _⟩ := o1.leafE
    exact ⟨v, s1, h v F H fp [] r (by rw [List.append_nil]; exact r.nd) (by rw [List.append_nil]; exact .refl) (.leaf q)⟩
theorem ev_var (i : Nat) {x : Str} (hk : ks[i]? = some .leaf := by rfl) (hN : X.N[i]? = some x := by rfl) (hv : Vis X.env.scope x := by first | exact Or.inl rfl | exact Or.inr (Or.inl rfl) | exact Or.inr (Or.inr rfl)) (hd : (x == ("__debug__" : Str)) = false := by decide)
    (hcd : (x == ("__classdict__" : Str)) = false := by decide) : EV X ks W (.Name x pos) .leaf (tVar i) (mVar i) := ⟨pe_var hN hv hd hcd, snd_var hk⟩
/-- an owned slot as an operand -/
theorem eo_own (i : Nat) {x : Str} (hk : ks[i]? = some (.lst .leaf) ∨ ks[i]? = some (.dic .leaf) := by first | exact Or.inl rfl | exact Or.inr rfl) (hN : X.N[i]? = some x := by rfl) (hv : Vis X.env.scope x := by first | exact Or.inl rfl | exact Or.inr (Or.inl rfl) | exact Or.inr (Or.inr rfl)) (hd : (x == ("__debug__" : Str)) = false := by decide)
    (hcd : (x == ("__classdict__" : Str)) = false := by decide) : EO X ks W (.Name x pos) (fun σ H Q => ∃ v, σ[i]? = some (some v) ∧ Q v H) (fun ρ => (R.of ((ρ[i]?).bind id) ρ).bind fun _ ρ1 => .ok (.s i) ρ1) := by
  refine ⟨pe_var hN hv hd hcd, fun ρ σ F H fp Q r h => ?_⟩
  cases e : (ρ[i]?).bind id with
  | none => rw [e] at h; exact (show False from h).elim
  | some d =>
    rw [e] at h
    rcases hk with hk | hk
    · obtain ⟨v, f, g, s1, o1, _, _⟩ := r.sl.split hk (getE e)
      exact ⟨v, s1, h v F H fp r .refl ⟨s1, .inl hk⟩⟩
    · obtain ⟨v, f, g, s1, o1, _, _⟩ := r.sl.split hk (getE e)
      exact ⟨v, s1, h v F H fp r .refl ⟨s1, .inr hk⟩⟩
theorem eo_of (h : EV X ks W e .leaf t m) : EO X ks W e t (fun ρ => (m ρ).bind fun d ρ1 => .ok (.v d) ρ1) := by
  refine ⟨h.pe, fun ρ σ F H fp Q r hok => ?_⟩
  refine h.sd.go r (Ok := OkO (bd X ks W) F H fp σ Q) hok (fun z => z) (fun _ _ z => z) fun d ρ1 v F1 H1 fp1 h1 r1 x1 p1 => ?_
  exact h1 v F1 H1 fp1 r1 x1 p1
theorem snd_c {b : Bd} {v : V} {d : D} (h : ∀ F, Rep b.K F v d) : SndE b .leaf (tC v) (mC d) := by
  intro ρ σ F H fp Q r hok
  exact hok v F H fp [] r (by rw [List.append_nil]; exact r.nd) (by rw [List.append_nil]; exact .refl) (.leaf (h F))
theorem ev_int {i : Int} {j} : EV X ks W (.Constant (.int i) j pos) .leaf (tC (.int i)) (mC (.int i)) := ⟨pe_int, snd_c fun _ => .int _⟩
theorem ev_bl {i : Bool} {j} : EV X ks W (.Constant (.bool i) j pos) .leaf (tC (.bl i)) (mC (.bl i)) := ⟨pe_bl, snd_c fun _ => .bl _⟩
theorem ev_non {j} : EV X ks W (.Constant .none j pos) .leaf (tC .non) (mC .non) := ⟨pe_non, snd_c fun _ => .non⟩
theorem ev_str {x : Str} {j} (h : asc x = true := by decide +kernel) : EV X ks W (.Constant (.str x) j pos) .leaf (tC (.str x)) (mC (.str x)) := ⟨pe_str, snd_c fun _ => .str _ h⟩
/-- a module's constant -/
theorem ev_globI {x : Str} {i : Int} {tk : Tok} (hm : X.mg x = some (.int i tk)) (hg : Gl X x := by rfl) (hd : (x == ("__debug__" : Str)) = false := by decide) : EV X ks W (.Name x pos) .leaf (tC (.int i)) (mC (.int i)) := ⟨pe_glob hg hm ⟨_, rfl⟩ hd, snd_c fun _ => .int _⟩
theorem ev_globS {x y : Str} {tk : Tok} (hm : X.mg x = some (.str y tk)) (hy : asc y = true := by decide +kernel) (hg : Gl X x := by rfl) (hd : (x == ("__debug__" : Str)) = false := by decide) : EV X ks W (.Name x pos) .leaf (tC (.str y)) (mC (.str y)) := ⟨pe_glob hg hm ⟨_, rfl⟩ hd, snd_c fun _ => .str _ hy⟩
/-- cells locked -/
def Lk (l : List Addr) (H H2 : Hp) : Prop := (∀ a, a ∉ l → H2 a = H a) ∧ ∀ a ∈ l, ∃ o u, H a = some u ∧ H2 a = some (.frz o u)
theorem Inv.lockAll {pins : List (Addr × Obj)} {σ : St} {H : Hp} {s : Shared} (I : Inv X pins σ H s) : ∀ l : List Addr, l.Nodup → (∀ a ∈ l, ∃ u, H a = some u ∧ Mut (some u)) → ∃ H2, Lk l H H2 ∧ Inv X pins σ H2 s
  | [], _, _ => ⟨H, ⟨fun _ _ => rfl, fun _ m => by simp at m⟩, I⟩
  | a :: l, nd, h => by
    have nd' := List.nodup_cons.mp nd
    obtain ⟨H2, ⟨k1, k2⟩, I2⟩ := Inv.lockAll I l nd'.2 fun b m => h b (List.mem_cons_of_mem _ m)
    obtain ⟨u, e, mu⟩ := h a List.mem_cons_self
    have e2 : H2 a = some u := (k1 a nd'.1).trans e
    obtain ⟨od, I3⟩ := I2.lock e2 mu
    refine ⟨_, ⟨fun b nb => ?_, fun b m => ?_⟩, I3⟩
    · rw [List.mem_cons, not_or] at nb
      rw [upd_ne nb.1]; exact k1 b nb.2
    · by_cases q : b = a
      · subst q; exact ⟨od, u, e, upd_same⟩
      · rw [upd_ne q]
        rcases List.mem_cons.mp m with m | m
        · exact (q m).elim
        · exact k2 b m
def tFrz (t : TE) : TE := fun σ H Q => t σ H fun v H1 => ∃ l : List Addr, l.Nodup ∧ (∀ a ∈ l, ∃ u, H1 a = some u ∧ Mut (some u)) ∧ ∀ H2, Lk l H1 H2 → Q v H2
theorem pe_frz (h : PE X e t) : PE X e (tFrz t) := by
  refine ⟨fun pins s σ H Q I hw => ?_⟩
  refine thn (h.run pins s σ _ _ I hw) fun v s1 ⟨x, H1, I2, r, l, nd, mu, q⟩ => ?_
  obtain ⟨H2, lk, I3⟩ := Inv.lockAll I2 l nd mu
  exact ⟨x, H2, I3, r, q H2 lk⟩
def isDc : Option HO → Bool
  | some (.dK _) => true
  | some (.dT _) => true
  | _ => false
/-- a fresh owned thing, frozen -/
theorem ev_frz (h : EV X ks W e sh t m) : EV X ks W e .leaf (tFrz t) m := by
  refine ⟨pe_frz h.pe, fun ρ σ F H fp Q r hok => h.sd ρ σ F H fp _ r ?_⟩
  cases em : m ρ with
  | no => rw [em] at hok; exact hok
  | ex x ρ1 => rw [em] at hok; exact hok
  | ok d ρ1 =>
    rw [em] at hok
    intro v F' H' fp' fv r' nd x o
    have nd' := List.nodup_append.mp nd
    have fN : ∀ y ∈ fv, F' y = none := fun y m => (o.own y m).1
    refine ⟨fv.filter fun a => isDc (H' a), nd'.2.1.filter _, fun a ma => ?_, fun H2 lk => ?_⟩
    · have q := (List.mem_filter.mp ma).2
      cases eu : H' a with
      | none => rw [eu] at q; cases q
      | some u => rw [eu] at q; cases u <;> first | (cases q; done) | exact ⟨_, rfl, trivial⟩
    · have out : ∀ a, a ∉ fv → H2 a = H' a := fun a n => lk.1 a fun z => n (List.mem_filter.mp z).1
      have fz : ∀ a ∈ fv, Frzd (H' a) (H2 a) := fun a ma => by
        by_cases q : isDc (H' a) = true
        · obtain ⟨od, u, e1, e2⟩ := lk.2 a (List.mem_filter.mpr ⟨ma, q⟩)
          rw [e1] at q ⊢
          rw [e2]
          refine ⟨fun xs z => ?_, fun xs z => ?_, fun xs z => ?_⟩
          · cases z; cases q
          · cases z; exact ⟨_, rfl⟩
          · cases z; exact ⟨_, rfl⟩
        · rw [lk.1 a fun z => q (List.mem_filter.mp z).2]
          refine ⟨fun xs z => z, fun xs z => ?_, fun xs z => ?_⟩
          · rw [z] at q; exact absurd rfl q
          · rw [z] at q; exact absurd rfl q
      have sm : Same F' (frz F' H2 fv) := frz_same fN
      have sH : Same F' H2 := fun a u z => by
        rw [out a fun m => by rw [fN a m] at z; cases z]; exact r'.sub a u z
      have tp : ∀ a xs, H2 a = some (.tup xs) → frz F' H2 fv a = some (.tup xs) := fun a xs z => by
        by_cases ma : a ∈ fv
        · rw [frz_in ma]; exact z
        · rw [frz_out ma]; rw [out a ma] at z; exact r'.sub.tp a xs z
      refine hok v (frz F' H2 fv) H2 fp' [] ⟨⟨frz_sub sH, tp⟩, r'.nd, r'.sl.frame sm fun y m => ⟨?_, out y fun z => nd'.2.2 y m y z rfl⟩⟩ (by rw [List.append_nil]; exact r'.nd) ?_ (.leaf (o.frozen sm fun y m => by rw [frz_in m]; exact fz y m))
      · rw [frz_out fun z => nd'.2.2 y m y z rfl]
        exact (r'.sl.own y m).1
      · rw [List.append_nil]
        refine ⟨fun y ob e n => ?_, fun y m => x.fr y (List.mem_append_left _ m)⟩
        obtain ⟨k1, k2⟩ := x.keep y ob e n
        have ny : y ∉ fv := fun z => by
          rcases x.fr y (List.mem_append_right _ z) with q | q
          · exact n q
          · rw [q] at e; cases e
        refine ⟨(out y ny).trans k1, ?_⟩
        rw [frz_out ny]
        exact k2

/-- .. a list: nothing to lock -/
theorem ev_frzL (h : EV X ks W e (.lst .leaf) t m) : EV X ks W e .leaf t m := by
  refine ⟨h.pe, fun ρ σ F H fp Q r hok => h.sd ρ σ F H fp Q r ?_⟩
  cases em : m ρ with
  | no => rw [em] at hok; exact hok
  | ex x ρ1 => rw [em] at hok; exact hok
  | ok d ρ1 =>
    rw [em] at hok
    intro v F' H' fp' fv r' nd x o
    have nd' := List.nodup_append.mp nd
    have fN : ∀ y ∈ fv, F' y = none := fun y m => (o.own y m).1
    have sm : Same F' (frz F' H' fv) := frz_same fN
    have tp : ∀ a xs, H' a = some (.tup xs) → frz F' H' fv a = some (.tup xs) := fun a xs z => by
      by_cases ma : a ∈ fv
      · rw [frz_in ma]; exact z
      · rw [frz_out ma]; exact r'.sub.tp a xs z
    have fz : ∀ a ∈ fv, Frzd (H' a) (frz F' H' fv a) := fun a ma => by
      rw [frz_in ma]
      cases o with
      | lst q1 q2 q3 =>
        obtain ⟨_, rfl⟩ := q3.leafE
        cases List.mem_singleton.mp ma
        rw [q2]
        exact ⟨(fun xs z => z), (fun _ z => nomatch z), (fun _ z => nomatch z)⟩
    refine hok v (frz F' H' fv) H' fp' [] ⟨⟨frz_sub r'.sub.sm, tp⟩, r'.nd, r'.sl.frame sm fun y m => ⟨?_, rfl⟩⟩ (by rw [List.append_nil]; exact r'.nd) ?_ (.leaf (o.frozen sm fz))
    · rw [frz_out fun z => nd'.2.2 y m y z rfl]
      exact (r'.sl.own y m).1
    · rw [List.append_nil]
      refine ⟨fun y ob e n => ?_, fun y m => x.fr y (List.mem_append_left _ m)⟩
      obtain ⟨k1, k2⟩ := x.keep y ob e n
      refine ⟨k1, ?_⟩
      rw [frz_out fun z => ?_]
      · exact k2
      · rcases x.fr y (List.mem_append_right _ z) with q | q
        · exact n q
        · rw [q] at e; cases e

/-! ### argument lists -/
def mNil : MA := fun ρ => .ok [] ρ
def mCons (a : ME) (r : MA) : MA := fun ρ => (a ρ).bind fun d ρ1 => (r ρ1).bind fun ds ρ2 => .ok (d :: ds) ρ2
theorem ea_nil : EA X ks W [] tNil mNil := ⟨pa_nil, fun ρ σ F H fp Q r hok => hok [] F H fp r .refl .nil⟩
theorem ea_cons {tr : TA} {mr : MA} (ha : EV X ks W e .leaf t m) (hr : EA X ks W es tr mr) (hs : starEach (e :: es) X.env = (false, eval e X.env) :: starEach es X.env := by rfl) : EA X ks W (e :: es) (tCons t tr) (mCons m mr) := by
  refine ⟨pa_cons ha.pe hr.pe hs, fun ρ σ F H fp Q r hok => ?_⟩
  refine ha.sd.go r (Ok := OkA (bd X ks W) F H fp σ Q) hok (fun z => z) (fun _ _ z => z) fun d ρ1 v F1 H1 fp1 h1 r1 x1 p1 => ?_
  refine hr.sd.go r1 (Ok := OkA (bd X ks W) F1 H1 fp1 σ Q) (h1.ext x1) (fun z => z) (fun _ _ z => z) fun ds ρ2 vs F2 H2 fp2 h2 r2 x2 p2 => ?_
  exact h2 (v :: vs) F2 H2 fp2 r2 x2 (.cons (p1.mono (r1.same x2)) p2)
def mONil : DEnv → R (List Opd) := fun ρ => .ok [] ρ
def mOCons (a : MO) (r : DEnv → R (List Opd)) : DEnv → R (List Opd) := fun ρ => (a ρ).bind fun d ρ1 => (r ρ1).bind fun ds ρ2 => .ok (d :: ds) ρ2
theorem eos_nil : EOs X ks W [] tNil mONil := ⟨pa_nil, fun ρ σ F H fp Q r hok => hok [] F H fp r .refl .nil⟩
theorem paired_mono {b : Bd} {F F1 : Hp} {σ : St} (s : Same F F1) : ∀ {os : List Opd} {vs : List V}, Paired (fun o v => OpdOk b F σ v o) os vs → Paired (fun o v => OpdOk b F1 σ v o) os vs
  | _, _, .nil => .nil
  | _, _, .cons h t => .cons (h.mono s) (paired_mono s t)
theorem eos_cons {tr : TA} {mo : MO} {mr : DEnv → R (List Opd)} (ha : EO X ks W e t mo) (hr : EOs X ks W es tr mr) (hs : starEach (e :: es) X.env = (false, eval e X.env) :: starEach es X.env := by rfl) : EOs X ks W (e :: es) (tCons t tr) (mOCons mo mr) := by
  refine ⟨pa_cons ha.pe hr.pe hs, fun ρ σ F H fp Q r hok => ?_⟩
  refine ha.sd.go r (Ok := OkOs (bd X ks W) F H fp σ Q) hok (fun z => z) (fun _ _ z => z) fun d ρ1 v F1 H1 fp1 h1 r1 x1 p1 => ?_
  refine hr.sd.go r1 (Ok := OkOs (bd X ks W) F1 H1 fp1 σ Q) (h1.ext x1) (fun z => z) (fun _ _ z => z) fun ds ρ2 vs F2 H2 fp2 h2 r2 x2 p2 => ?_
  exact h2 (v :: vs) F2 H2 fp2 r2 x2 (.cons (p1.mono (r1.same x2)) p2)

/-! ### displays -/
def okLen (ds : List D) : Option (List D) := if ds.length ≤ 16777216 then some ds else none
def mTup (a : MA) : ME := fun ρ => (a ρ).bind fun ds ρ1 => if ds.length ≤ 16777216 then .ok (.tup ds) ρ1 else .no
def mLst (a : MA) : ME := fun ρ => (a ρ).bind fun ds ρ1 => if ds.length ≤ 16777216 then .ok (.lst ds) ρ1 else .no
theorem line_ok {n : Nat} (h : n ≤ 16777216) : n ≤ sizeLine := by rw [sizeLine_eq]; exact h
theorem ev_tup {t : TA} {a : MA} {x1} (h : EA X ks W es t a) : EV X ks W (.Tuple es x1 pos) .leaf (tTupF t) (mTup a) := by
  refine ⟨pe_tupF h.pe, fun ρ σ F H fp Q r hok => ?_⟩
  refine h.sd.go r (Ok := OkE (bd X ks W) .leaf F H fp σ Q) hok (fun z => z) (fun _ _ z => z) fun ds ρ1 vs F1 H1 fp1 h1 r1 x1 p1 => ?_
  by_cases hl : ds.length ≤ 16777216
  · rw [if_pos hl] at h1
    exact ⟨by rw [p1.length]; exact line_ok hl, fun p us np => ((h1.ext x1).done r1).newT r1.sub p1 np⟩
  · rw [if_neg hl] at h1; exact (show False from h1).elim
theorem ev_lst {t : TA} {a : MA} (h : EA X ks W es t a) : EV X ks W (.List es pos) (.lst .leaf) (tLst t) (mLst a) := by
  refine ⟨pe_lst h.pe, fun ρ σ F H fp Q r hok => ?_⟩
  refine h.sd.go r (Ok := OkE (bd X ks W) (.lst .leaf) F H fp σ Q) hok (fun z => z) (fun _ _ z => z) fun ds ρ1 vs F1 H1 fp1 h1 r1 x1 p1 => ?_
  by_cases hl : ds.length ≤ 16777216
  · rw [if_pos hl] at h1
    exact ⟨by rw [p1.length]; exact line_ok hl, fun p np => ((h1.ext x1).done r1).newL r1.sub p1 np⟩
  · rw [if_neg hl] at h1; exact (show False from h1).elim

/-! ### operators, comparisons, built-ins by rules -/
theorem ev_op {op : Operator} {r : R2} {f : D → D → Option D} {mo mp : MO} (ho : OpR X (binaryOp op) r) (hs : Op2 X.K sh r f) (ha : EO X ks W a ta mo) (hc : EO X ks W c tc mp) : EV X ks W (.BinOp a op c pos) sh (tOp r ta tc) (mOp2 f mo mp) :=
  ⟨pe_op ho ha.pe hc.pe, snd_op2 (b := bd X ks W) hs ha.sd hc.sd⟩
theorem ev_un {op : UnaryOp} {r : V → Hp → VK → Prop} {f : D → Option D} {mo : MO} (ho : UnR X (unaryOp op) r) (hs : Op1 X.K sh r f) (ha : EO X ks W a ta mo) : EV X ks W (.UnaryOp op a pos) sh (tUn r ta) (mOp1 f mo) :=
  ⟨pe_un ho ha.pe, snd_op1 (b := bd X ks W) hs ha.sd⟩
theorem ev_cmp {op : CmpOp} {r : R2} {f : D → D → Option D} {mo mp : MO} (ho : OpR X (compareOp op) r) (hs : Op2 X.K sh r f) (ha : EO X ks W a ta mo) (hc : EO X ks W c tc mp) (hm : behindInMarks op c = false) : EV X ks W (.Compare a [op] [c] pos) sh (tOp r ta tc) (mOp2 f mo mp) :=
  ⟨pe_cmpR ho ha.pe hc.pe hm, snd_op2 (b := bd X ks W) hs ha.sd hc.sd⟩
theorem ev_ix {r : R2} {f : D → D → Option D} {mo mp : MO} (ho : IxR X r) (hs : Op2 X.K sh r f) (ha : EO X ks W a ta mo) (hc : EO X ks W c tc mp) (hx : PlainIx c := by exact fun _ _ => rfl) : EV X ks W (.Subscript a c pos) sh (tOp r ta tc) (mOp2 f mo mp) :=
  ⟨pe_ix ho ha.pe hc.pe hx, snd_op2 (b := bd X ks W) hs ha.sd hc.sd⟩
theorem ev_callB {x : Str} {p : Pos} {id : String} {r : List V → Hp → VK → Prop} {f : List D → Option D} {t : TA} {mo : DEnv → R (List Opd)} (ho : CallR X (.builtin id) r) (hs : OpN X.K sh r f) (ha : EOs X ks W (e :: es) t mo) (hm : X.mg x = none) (hv : bootBuiltins x = some (.builtin id))
    (hg : Gl X x := by rfl) (hn : x ≠ "__name__" := by decide) (hdb : (x == ("__debug__" : Str)) = false := by decide)
    (he : starEach (e :: es) X.env = (false, eval e X.env) :: starEach es X.env := by rfl) (hpl : (backTo pos (starEach es X.env)).any (·.1) = false := by rfl) : EV X ks W (.Call (.Name x p) (e :: es) [] pos) sh (tCB r t) (mOpN f mo) :=
  ⟨pe_callB ho hg hm hv ha.pe hn hdb he hpl, snd_opN (b := bd X ks W) hs ha.sd⟩
theorem ev_callT {x : Str} {p : Pos} {id : String} {r : List V → Hp → VK → Prop} {f : List D → Option D} {t : TA} {mo : DEnv → R (List Opd)} (ho : CallR X (.type id) r) (hs : OpN X.K sh r f) (ha : EOs X ks W (e :: es) t mo) (hm : X.mg x = none) (hv : bootBuiltins x = some (.type id))
    (hg : Gl X x := by rfl) (hn : x ≠ "__name__" := by decide) (hdb : (x == ("__debug__" : Str)) = false := by decide)
    (he : starEach (e :: es) X.env = (false, eval e X.env) :: starEach es X.env := by rfl) (hpl : (backTo pos (starEach es X.env)).any (·.1) = false := by rfl) : EV X ks W (.Call (.Name x p) (e :: es) [] pos) sh (tCB r t) (mOpN f mo) :=
  ⟨pe_callTy ho hg hm hv ha.pe hn hdb he hpl, snd_opN (b := bd X ks W) hs ha.sd⟩
/-- a method of a text: no argument, one -/
theorem ev_m0 {id : String} {name : Str} {apos : Pos} {r : V → List V → Hp → VK → Prop} {f : D → Option D} {mo : MO} (slot : Slot "str" name id) (ty : typeOf (.builtin id) = pure (.type "method_descriptor")) (rule : MtR X id r)
    (hs : Op1 X.K sh (fun x H Q => (∃ z, x = .str z) ∧ r x [] H Q) f) (ho : EO X ks W a ta mo)
    (hbase : attributeBase a name X.env (eval a X.env) = eval a X.env := by rfl) (hline : (apos.endLine == pos.line) = true := by rfl) : EV X ks W (.Call (.Attribute a name apos) [] [] pos) sh (tM0 r ta) (mOp1 f mo) :=
  ⟨pe_m0 slot ty rule ho.pe hbase hline, snd_op1 (b := bd X ks W) hs ho.sd⟩
theorem ev_m1 {id : String} {name : Str} {apos : Pos} {r : V → List V → Hp → VK → Prop} {f : D → D → Option D} {mp : MO} (slot : Slot "str" name id) (ty : typeOf (.builtin id) = pure (.type "method_descriptor")) (rule : MtR X id r)
    (hs : Op2 X.K sh (fun x y H Q => r x [y] H Q) f) (hq : ∀ d e z, f d e = some z → ∃ x, d = .str x) (ho : EV X ks W a .leaf ta m) (hc : EO X ks W c tc mp)
    (hst : starEach [c] X.env = [(false, eval c X.env)] := by rfl) (hbase : attributeBase a name X.env (eval a X.env) = eval a X.env := by rfl) (hline : (apos.endLine == pos.line) = true := by rfl) :
    EV X ks W (.Call (.Attribute a name apos) [c] [] pos) sh (tM1 r ta tc) (fun ρ => (m ρ).bind fun d ρ1 => (match d with | .str x => (mp ρ1).bind fun o ρ2 => R.of ((o.get ρ2).bind fun e => f (.str x) e) ρ2 | _ => .no)) := by
  refine ⟨pe_m1 slot ty rule ho.pe hc.pe hst hbase hline, fun ρ σ F H fp Q r0 hok => ?_⟩
  refine ho.sd.go r0 (Ok := OkE (bd X ks W) sh F H fp σ Q) hok (fun z => z) (fun _ _ z => z) fun d ρ1 v F1 H1 fp1 h1 r1 x1 p1 => ?_
  cases d with
  | str x =>
    have ev : v = .str x := by cases p1; rfl
    refine ⟨⟨x, ev⟩, ?_⟩
    refine hc.sd.go r1 (Ok := OkE (bd X ks W) sh F1 H1 fp1 σ Q) (h1.ext x1) (fun z => z) (fun _ _ z => z) fun y ρ2 u F2 H2 fp2 h2 r2 x2 o2 => ?_
    cases e2 : y.get ρ2 with
    | none => rw [e2] at h2; exact (show False from h2).elim
    | some e =>
      cases e3 : f (.str x) e with
      | none => rw [e2, Option.bind_some, e3] at h2; exact (show False from h2).elim
      | some z =>
        rw [e2, Option.bind_some, e3] at h2
        exact hs F2 H2 v u (.str x) e z Q r2.sub (.rep (p1.mono (r1.same x2))) (o2.vw r2 e2) e3 ((h2.ext x2).done r2)
  | _ => exact (show False from h1).elim

/-! ### tests -/
def asB : D → DEnv → R Bool
  | .bl c, ρ => .ok c ρ
  | _, _ => .no
def mTest (m : ME) : MT := fun ρ => (m ρ).bind asB
theorem asBE {α : Prop} {d : D} {ρ : DEnv} {Ok : R Bool → Prop} (hn : ¬ Ok .no) (h : Ok (asB d ρ)) (k : ∀ c, d = .bl c → Ok (.ok c ρ) → α) : α := by
  cases d with
  | bl c => exact k c rfl h
  | _ => exact (hn h).elim
theorem snd_test {b : Bd} (h : SndE b .leaf t m) : SndT b (tB t) (mTest m) := by
  intro ρ σ F H fp Q r hok
  refine h.go r (Ok := OkT b F H fp σ Q) hok (fun z => z) (fun _ _ z => z) fun d ρ1 v F1 H1 fp1 h1 r1 x1 p1 => ?_
  refine asBE (Ok := OkT b F H fp σ Q) (fun z => z) h1 fun k e h2 => ?_
  subst e
  cases p1
  exact ⟨k, rfl, h2 F1 H1 fp1 r1 x1⟩
theorem et_val (h : EV X ks W e .leaf t m) (he : ∀ whole, isTrue e X.env whole = (do let v ← whole; standAt e.pos; holding [v] (truthy v)) := by intro _; rfl) : ET X ks W e (tB t) (mTest m) := ⟨pt_val h.pe he, snd_test h.sd⟩
theorem et_cmp {op : CmpOp} {r : R2} {f : D → D → Option D} {mo mp : MO} (ho : OpR X (compareOp op) r) (hs : Op2 X.K .leaf r f) (ha : EO X ks W a ta mo) (hc : EO X ks W c tc mp) (hm : behindInMarks op c = false) : ET X ks W (.Compare a [op] [c] pos) (tTest (tOp r ta tc)) (mTest (mOp2 f mo mp)) :=
  ⟨pt_cmpR ho ha.pe hc.pe hm, snd_test (snd_op2 (b := bd X ks W) hs ha.sd hc.sd)⟩
def mNot (m : MT) : MT := fun ρ => (m ρ).bind fun c ρ1 => .ok (!c) ρ1
def mAnd (m n : MT) : MT := fun ρ => (m ρ).bind fun c ρ1 => if c = true then n ρ1 else .ok false ρ1
def mOr (m n : MT) : MT := fun ρ => (m ρ).bind fun c ρ1 => if c = true then .ok true ρ1 else n ρ1
theorem et_not {tA : TT} {mt : MT} (h : ET X ks W a tA mt) : ET X ks W (.UnaryOp .Not a pos) (tNot tA) (mNot mt) := by
  refine ⟨pt_not h.pe, fun ρ σ F H fp Q r hok => ?_⟩
  exact h.sd.go r (Ok := OkT (bd X ks W) F H fp σ Q) hok (fun z => z) (fun _ _ z => z) fun k ρ1 F1 H1 fp1 h1 r1 x1 => h1 F1 H1 fp1 r1 x1
theorem et_w {tA : TT} {mt : MT} (h : EW X ks W a tA mt) : ET X ks W a tA mt := ⟨h.pe.pt, h.sd⟩
theorem ew_and1 {tA : TT} {mt : MT} (h : ET X ks W a tA mt) : EW X ks W (.BoolOp .And [a] pos) tA mt := ⟨pw_and1 h.pe, h.sd⟩
theorem ew_or1 {tA : TT} {mt : MT} (h : ET X ks W a tA mt) : EW X ks W (.BoolOp .Or [a] pos) tA mt := ⟨pw_or1 h.pe, h.sd⟩
theorem ew_and {tA tB' : TT} {mt mu : MT} (h : ET X ks W a tA mt) (h2 : EW X ks W (.BoolOp .And (c :: es) pos) tB' mu) : EW X ks W (.BoolOp .And (a :: c :: es) pos) (tAnd tA tB') (mAnd mt mu) := by
  refine ⟨pw_and h.pe h2.pe, fun ρ σ F H fp Q r hok => ?_⟩
  refine h.sd.go r (Ok := OkT (bd X ks W) F H fp σ Q) hok (fun z => z) (fun _ _ z => z) fun k ρ1 F1 H1 fp1 h1 r1 x1 => ?_
  cases k with
  | true => rw [if_pos rfl] at h1 ⊢; exact h2.sd ρ1 σ F1 H1 fp1 Q r1 (h1.ext x1)
  | false => rw [if_neg Bool.false_ne_true] at h1 ⊢; exact h1 F1 H1 fp1 r1 x1
theorem ew_or {tA tB' : TT} {mt mu : MT} (h : ET X ks W a tA mt) (h2 : EW X ks W (.BoolOp .Or (c :: es) pos) tB' mu) : EW X ks W (.BoolOp .Or (a :: c :: es) pos) (tOr tA tB') (mOr mt mu) := by
  refine ⟨pw_or h.pe h2.pe, fun ρ σ F H fp Q r hok => ?_⟩
  refine h.sd.go r (Ok := OkT (bd X ks W) F H fp σ Q) hok (fun z => z) (fun _ _ z => z) fun k ρ1 F1 H1 fp1 h1 r1 x1 => ?_
  cases k with
  | true => rw [if_pos rfl] at h1 ⊢; exact h1 F1 H1 fp1 r1 x1
  | false => rw [if_neg Bool.false_ne_true] at h1 ⊢; exact h2.sd ρ1 σ F1 H1 fp1 Q r1 (h1.ext x1)
/-- .. as values -/
def mAndV (m n : ME) : ME := fun ρ => ((m ρ).bind asB).bind fun c ρ1 => if c = true then n ρ1 else .ok (.bl false) ρ1
def mOrV (m n : ME) : ME := fun ρ => ((m ρ).bind asB).bind fun c ρ1 => if c = true then .ok (.bl true) ρ1 else n ρ1
def mNotV (m : ME) : ME := fun ρ => ((m ρ).bind asB).bind fun c ρ1 => .ok (.bl (!c)) ρ1
theorem bind_assoc {α β γ : Type} (r : R α) (f : α → DEnv → R β) (g : β → DEnv → R γ) : (r.bind f).bind g = r.bind fun a ρ => (f a ρ).bind g := by
  cases r <;> rfl
theorem asBE2 {α : Prop} {β : Type} {d : D} {ρ : DEnv} {Ok : R β → Prop} {g : Bool → DEnv → R β} (hn : ¬ Ok .no) (h : Ok ((asB d ρ).bind g)) (k : ∀ c, d = .bl c → Ok (g c ρ) → α) : α := by
  cases d with
  | bl c => exact k c rfl h
  | _ => exact (hn h).elim
theorem ev_one {op} (h : EV X ks W a sh t m) : EV X ks W (.BoolOp op [a] pos) sh t m := ⟨pe_one h.pe, h.sd⟩
theorem ev_and {mc : ME} (h : EV X ks W a .leaf t m) (h2 : EV X ks W (.BoolOp .And (c :: es) pos) .leaf tc mc) : EV X ks W (.BoolOp .And (a :: c :: es) pos) .leaf (tAndV t tc) (mAndV m mc) := by
  refine ⟨pe_and h.pe h2.pe, fun ρ σ F H fp Q r hok => ?_⟩
  unfold mAndV at hok
  rw [bind_assoc] at hok
  refine h.sd.go r (Ok := OkE (bd X ks W) .leaf F H fp σ Q) hok (fun z => z) (fun _ _ z => z) fun d ρ1 v F1 H1 fp1 h1 r1 x1 p1 => ?_
  refine asBE2 (Ok := OkE (bd X ks W) .leaf F H fp σ Q) (fun z => z) h1 fun k e h3 => ?_
  subst e
  cases p1
  refine ⟨k, rfl, ?_⟩
  cases k with
  | true => rw [if_pos rfl] at h3 ⊢; exact h2.sd ρ1 σ F1 H1 fp1 Q r1 (h3.ext x1)
  | false => rw [if_neg Bool.false_ne_true] at h3 ⊢; exact ((h3.ext x1).done r1).here r1.sub (.bl _)
theorem ev_or {mc : ME} (h : EV X ks W a .leaf t m) (h2 : EV X ks W (.BoolOp .Or (c :: es) pos) .leaf tc mc) : EV X ks W (.BoolOp .Or (a :: c :: es) pos) .leaf (tOrV t tc) (mOrV m mc) := by
  refine ⟨pe_or h.pe h2.pe, fun ρ σ F H fp Q r hok => ?_⟩
  unfold mOrV at hok
  rw [bind_assoc] at hok
  refine h.sd.go r (Ok := OkE (bd X ks W) .leaf F H fp σ Q) hok (fun z => z) (fun _ _ z => z) fun d ρ1 v F1 H1 fp1 h1 r1 x1 p1 => ?_
  refine asBE2 (Ok := OkE (bd X ks W) .leaf F H fp σ Q) (fun z => z) h1 fun k e h3 => ?_
  subst e
  cases p1
  refine ⟨k, rfl, ?_⟩
  cases k with
  | true => rw [if_pos rfl] at h3 ⊢; exact ((h3.ext x1).done r1).here r1.sub (.bl _)
  | false => rw [if_neg Bool.false_ne_true] at h3 ⊢; exact h2.sd ρ1 σ F1 H1 fp1 Q r1 (h3.ext x1)
theorem ev_not (h : EV X ks W a .leaf t m) : EV X ks W (.UnaryOp .Not a pos) .leaf (tNotV t) (mNotV m) := by
  refine ⟨pe_not h.pe, fun ρ σ F H fp Q r hok => ?_⟩
  unfold mNotV at hok
  rw [bind_assoc] at hok
  refine h.sd.go r (Ok := OkE (bd X ks W) .leaf F H fp σ Q) hok (fun z => z) (fun _ _ z => z) fun d ρ1 v F1 H1 fp1 h1 r1 x1 p1 => ?_
  refine asBE2 (Ok := OkE (bd X ks W) .leaf F H fp σ Q) (fun z => z) h1 fun k e h3 => ?_
  subst e
  cases p1
  exact ⟨k, rfl, ((h3.ext x1).done r1).here r1.sub (.bl _)⟩
def mIf (c : MT) (a b : ME) : ME := fun ρ => (c ρ).bind fun k ρ1 => if k = true then a ρ1 else b ρ1
theorem ev_if {x : Expr} {tA : TT} {mt : MT} {mc : ME} (hx : ET X ks W x tA mt) (h : EV X ks W a sh t m) (h2 : EV X ks W c sh tc mc) : EV X ks W (.IfExp x a c pos) sh (tIf tA t tc) (mIf mt m mc) := by
  refine ⟨pe_ifExp hx.pe h.pe h2.pe, fun ρ σ F H fp Q r hok => ?_⟩
  refine hx.sd.go r (Ok := OkE (bd X ks W) sh F H fp σ Q) hok (fun z => z) (fun _ _ z => z) fun k ρ1 F1 H1 fp1 h1 r1 x1 => ?_
  cases k with
  | true => rw [if_pos rfl] at h1 ⊢; exact h.sd ρ1 σ F1 H1 fp1 Q r1 (h1.ext x1)
  | false => rw [if_neg Bool.false_ne_true] at h1 ⊢; exact h2.sd ρ1 σ F1 H1 fp1 Q r1 (h1.ext x1)
end
end VL
/-! V4: operations on data: + - * // % ** << >> &, == != < in, items, slices, len. -/
namespace VL
open PySem PySem.Spec L2

/-! ### texts below 128 -/
theorem ascE {x : Str} (h : asc x = true) : (∀ c ∈ x.cps.toList, c < 128) ∧ x.length ≤ 16777216 := by
  unfold asc at h
  rw [Bool.and_eq_true, decide_eq_true_eq, Array.all_eq_true'] at h
  exact ⟨fun c m => of_decide_eq_true (h.1 c (Array.mem_toList_iff.mp m)), h.2⟩
theorem asc_mk {x : Str} (h : ∀ c ∈ x.cps.toList, c < 128) (hl : x.length ≤ 16777216) : asc x = true := by
  unfold asc
  rw [Bool.and_eq_true, decide_eq_true_eq, Array.all_eq_true']
  exact ⟨fun c m => decide_eq_true (h c (Array.mem_toList_iff.mpr m)), hl⟩
theorem asc_line {x : Str} (h : asc x = true) : x.length ≤ sizeLine := line_ok (ascE h).2
theorem asc_cat {x y : Str} (h : asc x = true) (h' : asc y = true) (hl : x.length + y.length ≤ 16777216) : asc (x ++ y) = true := by
  have e : (x ++ y).cps.toList = x.cps.toList ++ y.cps.toList := TL.tl_append x y
  refine asc_mk (fun c m => ?_) ?_
  · rw [e] at m
    rcases List.mem_append.mp m with m | m
    · exact (ascE h).1 c m
    · exact (ascE h').1 c m
  · have : (x ++ y).length = x.length + y.length := by
      show (x ++ y).cps.size = x.cps.size + y.cps.size
      rw [← Array.length_toList, e, List.length_append, Array.length_toList, Array.length_toList]
    omega
theorem asc_sub {x : Str} {l : List Nat} (h : asc x = true) (hs : ∀ c ∈ l, c ∈ x.cps.toList) (hl : l.length ≤ x.length) : asc ⟨l.toArray⟩ = true := by
  refine asc_mk (fun c m => (ascE h).1 c (hs c (by simpa using m))) ?_
  show l.toArray.size ≤ _
  rw [List.size_toArray]
  exact Nat.le_trans hl (ascE h).2
theorem asc_one {x : Str} {c : Nat} (h : asc x = true) (m : c ∈ x.cps.toList) : asc ⟨#[c]⟩ = true := by
  refine asc_mk (fun d md => ?_) (by show 1 ≤ 16777216; decide)
  have : d = c := by simpa using md
  subst this
  exact (ascE h).1 d m

/-! ### data as the library reads it -/
def keyD : Key → D
  | .inl n => .int n
  | .inr z => .str z
def keyP : Key → PyData
  | .inl i => .int i
  | .inr x => .str x
mutual
def D.toPy : D → PyData
  | .non => .none | .bl b => .bool b | .int i => .int i | .str x => .str x
  | .tup xs => .tuple (toPyL xs) | .lst xs => .list (toPyL xs)
  | .dK _ => .dict [] | .dT _ => .dict [] | .ob _ _ => .dict []
  | .scr ns => .list (ns.map .int) | .rp p => .str p.shown | .ty _ => .dict []
  | .key ks => .tuple (ks.map keyP)
def toPyL : List D → List PyData
  | [] => []
  | d :: ds => d.toPy :: toPyL ds
end
mutual
def D.py : D → Bool
  | .non => true | .bl _ => true | .int _ => true | .str _ => true
  | .tup xs => pyL xs | .lst xs => pyL xs
  | .dK _ => false | .dT _ => false | .ob _ _ => false | .scr _ => true | .rp _ => false | .ty _ => false
  | .key _ => true
def pyL : List D → Bool
  | [] => true
  | d :: ds => d.py && pyL ds
end
theorem py_nod {d : D} (h : d.py = true) : d.nod = true := by
  cases d <;> first | rfl | (rw [D.py] at h; cases h)
theorem dp_ints {K : PySem.W.Frag} {H : Hp} : ∀ ns : List Int, DpAll K H (ns.map V.int) (ns.map PyData.int)
  | [] => .nil
  | n :: ns => .cons (.int n) (dp_ints ns)
theorem lay_ints : ∀ ns : List Int, PyData.canLayAll0 (ns.map PyData.int) = true
  | [] => by simp [PyData.canLayAll0]
  | n :: ns => by simp [PyData.canLayAll0, PyData.canLay0, lay_ints ns]
theorem asc_strOk {x : Str} (h : asc x = true) : PyData.strOk x = true := by
  unfold PyData.strOk
  rw [Array.all_eq_true']
  intro c m
  have := (ascE h).1 c (Array.mem_toList_iff.mpr m)
  exact decide_eq_true (by omega)
theorem dp_keys {K : PySem.W.Frag} {H : Hp} : ∀ ks : List Key, DpAll K H (ks.map kV) (ks.map keyP)
  | [] => .nil
  | .inl i :: ks => .cons (.int i) (dp_keys ks)
  | .inr x :: ks => .cons (.str x) (dp_keys ks)
theorem lay_keys : ∀ ks : List Key, ks.all ascK = true → PyData.canLayAll0 (ks.map keyP) = true
  | [], _ => by simp [PyData.canLayAll0]
  | .inl i :: ks, h => by
    rw [List.all_cons, Bool.and_eq_true] at h
    simp [PyData.canLayAll0, keyP, PyData.canLay0, lay_keys ks h.2]
  | .inr x :: ks, h => by
    rw [List.all_cons, Bool.and_eq_true] at h
    have q : PyData.strOk x = true := asc_strOk h.1
    simp [PyData.canLayAll0, keyP, PyData.canLay0, lay_keys ks h.2, q]
mutual
theorem Rep.dp {K : PySem.W.Frag} {H : Hp} : ∀ {v : V} {d : D}, Rep K H v d → d.py = true → Dp K H v d.toPy ∧ d.toPy.canLay0 = true
  | _, _, .non, _ => ⟨by rw [D.toPy]; exact .non, by rw [D.toPy, PyData.canLay0]⟩
  | _, _, .bl b, _ => ⟨by rw [D.toPy]; exact .bl b, by rw [D.toPy, PyData.canLay0]⟩
  | _, _, .int i, _ => ⟨by rw [D.toPy]; exact .int i, by rw [D.toPy, PyData.canLay0]⟩
  | _, _, .str x h, _ => ⟨by rw [D.toPy]; exact .str x, by rw [D.toPy, PyData.canLay0]; exact asc_strOk h⟩
  | _, _, .tup e r, h => by
    rw [D.py] at h
    obtain ⟨a, b⟩ := Reps.dp r h
    rw [D.toPy, PyData.canLay0]
    exact ⟨.tup (e.sq K) a, b⟩
  | _, _, .lst e r, h => by
    rw [D.py] at h
    obtain ⟨a, b⟩ := Reps.dp r h
    rw [D.toPy, PyData.canLay0]
    exact ⟨.lst (.inl (.inl e)) a, b⟩
  | _, _, .dK _ _ _, h => by rw [D.py] at h; cases h
  | _, _, .dT _ _ _, h => by rw [D.py] at h; cases h
  | _, _, .scr e, _ => by
    rw [D.toPy, PyData.canLay0]
    exact ⟨.lst e (dp_ints _), lay_ints _⟩
  | _, _, .rp _, h => by rw [D.py] at h; cases h
  | _, _, .ty _, h => by rw [D.py] at h; cases h
  | _, _, .key e h, _ => by
    rw [D.toPy, PyData.canLay0]
    exact ⟨.tup (.inl (.inl e)) (dp_keys _), lay_keys _ h⟩
theorem Reps.dp {K : PySem.W.Frag} {H : Hp} : ∀ {vs : List V} {ds : List D}, Reps K H vs ds → pyL ds = true → DpAll K H vs (toPyL ds) ∧ PyData.canLayAll0 (toPyL ds) = true
  | _, _, .nil, _ => ⟨by rw [toPyL]; exact .nil, by rw [toPyL, PyData.canLayAll0]⟩
  | _, _, .cons h r, q => by
    rw [pyL, Bool.and_eq_true] at q
    obtain ⟨a, b⟩ := Rep.dp h q.1
    obtain ⟨c, d⟩ := Reps.dp r q.2
    rw [toPyL, PyData.canLayAll0, Bool.and_eq_true]
    exact ⟨.cons a c, b, d⟩
end
def eqv (d e : D) : Bool := PyData.eqv d.toPy e.toPy
def eqOk (d e : D) : Bool := d.py && e.py && decide (min d.toPy.depth e.toPy.depth ≤ 60)

section
variable {X : Cx}
def rEqA (K : PySem.W.Frag) (neg : Bool) : R2 := fun x y H Q => ∃ d e, Dp K H x d ∧ Dp K H y e ∧ d.canLay0 = true ∧ e.canLay0 = true ∧ min d.depth e.depth ≤ 60 ∧ Q (.bl (if neg then !PyData.eqv d e else PyData.eqv d e)) H
theorem op_eqA (hu : X.A.units + 65 < cLine) : OpR X (compareOp .Eq) (rEqA X.K false) := by
  intro pins s σ H x y v u Q I rx ry ⟨d, e, hd, he, ld, le, hm, q⟩
  obtain ⟨as, r1⟩ := Dp.reads I d x v hd rx
  obtain ⟨bs, r2⟩ := Dp.reads I e y u he ry
  exact SeqAt.compareEq_reads r1 r2 ld le (by omega) ⟨.bl _, H, I, rfl, q⟩
theorem op_neA (hu : X.A.units + 65 < cLine) : OpR X (compareOp .NotEq) (rEqA X.K true) := by
  intro pins s σ H x y v u Q I rx ry ⟨d, e, hd, he, ld, le, hm, q⟩
  obtain ⟨as, r1⟩ := Dp.reads I d x v hd rx
  obtain ⟨bs, r2⟩ := Dp.reads I e y u he ry
  exact SeqAt.compareNe_reads r1 r2 ld le (by omega) ⟨.bl _, H, I, rfl, q⟩
end
def eqB (d e : D) : Option Bool := match d, e with
  | .rp a, .rp b => some (decide (a.shown = b.shown))
  | .rp a, .str y => some (decide (a.shown = y))
  | .str x, .rp b => some (decide (x = b.shown))
  | d, e => if eqOk d e = true then some (eqv d e) else none
def eqD (d e : D) : Option D := (eqB d e).bind fun c => some (.bl c)
def neD (d e : D) : Option D := (eqB d e).bind fun c => some (.bl (!c))
theorem eqOkE {d e : D} (h : eqOk d e = true) : d.py = true ∧ e.py = true ∧ min d.toPy.depth e.toPy.depth ≤ 60 := by
  unfold eqOk at h
  rw [Bool.and_eq_true, Bool.and_eq_true, decide_eq_true_eq] at h
  exact ⟨h.1.1, h.1.2, h.2⟩
abbrev rEqU (K : PySem.W.Frag) : R2 := fun x y H Q => rEqA K false x y H Q ∨ rEq x y H Q
abbrev rNeU (K : PySem.W.Frag) : R2 := fun x y H Q => rEqA K true x y H Q ∨ rNe x y H Q
theorem op_eqU {X : Cx} (hu : X.A.units + 65 < cLine) : OpR X (compareOp .Eq) (rEqU X.K) := (op_eqA hu).or op_eq
theorem op_neU {X : Cx} (hu : X.A.units + 65 < cLine) : OpR X (compareOp .NotEq) (rNeU X.K) := (op_neA hu).or op_ne
section
variable {K : PySem.W.Frag}
theorem Vw.rpE {F H : Hp} {v : V} {p : PyData} (h : Vw K F H v (.rp p)) : v = .str p.shown := by
  cases h with
  | rep r => cases r; rfl
theorem dec_strV (x y : Str) : decide (V.str x = V.str y) = decide (x = y) := by
  by_cases h : x = y
  · subst h; simp
  · rw [decide_eq_false h, decide_eq_false (fun e => h (V.str.inj e))]
theorem eq_core {F H : Hp} {x y : V} {d e : D} {c : Bool} (sm : Sub F H) (hx : Vw K F H x d) (hy : Vw K F H y e) (h : eqB d e = some c) :
    (∃ p q, Dp K H x p ∧ Dp K H y q ∧ p.canLay0 = true ∧ q.canLay0 = true ∧ min p.depth q.depth ≤ 60 ∧ PyData.eqv p q = c) ∨ (scal x y = true ∧ decide (x = y) = c) := by
  unfold eqB at h
  split at h
  · cases h
    rw [hx.rpE, hy.rpE]
    exact .inr ⟨rfl, dec_strV _ _⟩
  · cases h
    rw [hx.rpE, hy.strE.1]
    exact .inr ⟨rfl, dec_strV _ _⟩
  · cases h
    rw [hx.strE.1, hy.rpE]
    exact .inr ⟨rfl, dec_strV _ _⟩
  · split at h
    · rename_i c
      cases h
      obtain ⟨h1, h2, h3⟩ := eqOkE c
      obtain ⟨a1, a2⟩ := (hx.whole sm (py_nod h1)).dp h1
      obtain ⟨b1, b2⟩ := (hy.whole sm (py_nod h2)).dp h2
      exact .inl ⟨_, _, a1, b1, a2, b2, h3, rfl⟩
    · cases h
theorem s_eq : Op2 K .leaf (rEqU K) eqD := by
  intro F H x y d e z Q sm hx hy hf ok
  unfold eqD at hf
  cases h : eqB d e with
  | none => rw [h] at hf; cases hf
  | some c =>
    rw [h] at hf
    cases hf
    have q := ok.here sm (.bl c)
    rcases eq_core sm hx hy h with ⟨p, p', a1, a2, a3, a4, a5, a6⟩ | ⟨a1, a2⟩
    · exact .inl ⟨p, p', a1, a2, a3, a4, a5, by rw [a6]; exact q⟩
    · exact .inr ⟨a1, by rw [a2]; exact q⟩
theorem s_ne : Op2 K .leaf (rNeU K) neD := by
  intro F H x y d e z Q sm hx hy hf ok
  unfold neD at hf
  cases h : eqB d e with
  | none => rw [h] at hf; cases hf
  | some c =>
    rw [h] at hf
    cases hf
    have q := ok.here sm (.bl (!c))
    rcases eq_core sm hx hy h with ⟨p, p', a1, a2, a3, a4, a5, a6⟩ | ⟨a1, a2⟩
    · exact .inl ⟨p, p', a1, a2, a3, a4, a5, by rw [a6]; exact q⟩
    · exact .inr ⟨a1, by rw [a2]; exact q⟩

/-! ### numbers -/
def i2 (g : Int → Int → Option D) : D → D → Option D
  | .int i, .int j => g i j
  | _, _ => none
theorem i2E {g : Int → Int → Option D} {d e z : D} (h : i2 g d e = some z) : ∃ i j, d = .int i ∧ e = .int j ∧ g i j = some z := by
  unfold i2 at h
  split at h
  · exact ⟨_, _, rfl, rfl, h⟩
  · cases h
def subD := i2 fun i j => some (.int (i - j))
theorem s_sub : Op2 K .leaf (rI0 fun i j => .int (i - j)) subD := by
  intro F H x y d e z Q sm hx hy hf ok
  obtain ⟨i, j, rfl, rfl, h⟩ := i2E hf
  cases h
  exact ⟨i, j, hx.intE, hy.intE, ok.here sm (.int _)⟩
def fdivD := i2 fun i j => if 0 < j ∧ j < 10 ^ 30 then some (.int (i / j)) else none
theorem s_fdiv : Op2 K .leaf (rI CDivW fun i j => .int (i / j)) fdivD := by
  intro F H x y d e z Q sm hx hy hf ok
  obtain ⟨i, j, rfl, rfl, h⟩ := i2E hf
  by_cases c : 0 < j ∧ j < 10 ^ 30
  · rw [if_pos c] at h
    cases h
    refine ⟨i, j, hx.intE, hy.intE, wide_div (b := 100) c.1 ?_ (by decide) (by decide), ok.here sm (.int _)⟩
    have h1 : j < 1000000000000000000000000000000 := c.2
    have h2 : (2 ^ 100 : Nat) = 1267650600228229401496703205376 := by decide
    rw [h2]
    omega
  · rw [if_neg c] at h; cases h
def modD := i2 fun i j => if 0 < j then some (.int (i % j)) else none
theorem s_mod : Op2 K .leaf (rI (fun _ j => 0 < j) fun i j => .int (i % j)) modD := by
  intro F H x y d e z Q sm hx hy hf ok
  obtain ⟨i, j, rfl, rfl, h⟩ := i2E hf
  by_cases c : 0 < j
  · rw [if_pos c] at h
    cases h
    exact ⟨i, j, hx.intE, hy.intE, c, ok.here sm (.int _)⟩
  · rw [if_neg c] at h; cases h
def powD := i2 fun i j => if 0 ≤ j ∧ j ≤ 1000 ∧ i.natAbs < 2 ^ 64 then some (.int (i ^ j.toNat)) else none
theorem s_pow : Op2 K .leaf (rI CPow fun i j => .int (i ^ j.toNat)) powD := by
  intro F H x y d e z Q sm hx hy hf ok
  obtain ⟨i, j, rfl, rfl, h⟩ := i2E hf
  by_cases c : 0 ≤ j ∧ j ≤ 1000 ∧ i.natAbs < 2 ^ 64
  · rw [if_pos c] at h
    cases h
    exact ⟨i, j, hx.intE, hy.intE, ⟨c.1, by omega, c.2.2⟩, ok.here sm (.int _)⟩
  · rw [if_neg c] at h; cases h
def shlD := i2 fun i j => if 0 ≤ j ∧ j ≤ 1000 ∧ i.natAbs < 2 ^ 64 then some (.int (i * 2 ^ j.toNat)) else none
theorem s_shl : Op2 K .leaf (rI CPow fun i j => .int (i * 2 ^ j.toNat)) shlD := by
  intro F H x y d e z Q sm hx hy hf ok
  obtain ⟨i, j, rfl, rfl, h⟩ := i2E hf
  by_cases c : 0 ≤ j ∧ j ≤ 1000 ∧ i.natAbs < 2 ^ 64
  · rw [if_pos c] at h
    cases h
    exact ⟨i, j, hx.intE, hy.intE, ⟨c.1, by omega, c.2.2⟩, ok.here sm (.int _)⟩
  · rw [if_neg c] at h; cases h
def shrD := i2 fun i j => if 0 ≤ j then some (.int (i / 2 ^ j.toNat)) else none
theorem s_shr : Op2 K .leaf (rI (fun _ j => 0 ≤ j) fun i j => .int (i / 2 ^ j.toNat)) shrD := by
  intro F H x y d e z Q sm hx hy hf ok
  obtain ⟨i, j, rfl, rfl, h⟩ := i2E hf
  by_cases c : 0 ≤ j
  · rw [if_pos c] at h
    cases h
    exact ⟨i, j, hx.intE, hy.intE, c, ok.here sm (.int _)⟩
  · rw [if_neg c] at h; cases h
def andD := i2 fun i j => some (.int (Builtin.bitAnd i j))
theorem s_and : Op2 K .leaf (rI0 fun i j => .int (Builtin.bitAnd i j)) andD := by
  intro F H x y d e z Q sm hx hy hf ok
  obtain ⟨i, j, rfl, rfl, h⟩ := i2E hf
  cases h
  exact ⟨i, j, hx.intE, hy.intE, ok.here sm (.int _)⟩
def ltD := i2 fun i j => some (.bl (decide (i < j)))
def leD := i2 fun i j => some (.bl (decide (i ≤ j)))
def gtD := i2 fun i j => some (.bl (decide (j < i)))
def geD := i2 fun i j => some (.bl (decide (j ≤ i)))
theorem s_b {g : Int → Int → Bool} : Op2 K .leaf (rI0 fun i j => .bl (g i j)) (i2 fun i j => some (.bl (g i j))) := by
  intro F H x y d e z Q sm hx hy hf ok
  obtain ⟨i, j, rfl, rfl, h⟩ := i2E hf
  cases h
  exact ⟨i, j, hx.intE, hy.intE, ok.here sm (.bl _)⟩
def negD : D → Option D
  | .int i => some (.int (-i))
  | _ => none
theorem s_neg : Op1 K .leaf (rU fun i => .int (-i)) negD := by
  intro F H x d z Q sm hx hf ok
  unfold negD at hf
  split at hf
  · cases hf
    exact ⟨_, hx.intE, ok.here sm (.int _)⟩
  · cases hf
/-- is None -/
def D.isN : D → Bool
  | .non => true
  | _ => false
def isND : D → D → Option D
  | d, .non => some (.bl d.isN)
  | _, _ => none
def notND : D → D → Option D
  | d, .non => some (.bl (!d.isN))
  | _, _ => none
theorem Vw.non_iff {F H : Hp} {v : V} {d : D} (h : Vw K F H v d) : decide (v = .non) = d.isN := by
  cases h with
  | rep r => cases r <;> simp [D.isN]
  | lst _ _ => simp [D.isN]
  | dK _ _ _ => simp [D.isN]
  | dT _ _ _ => simp [D.isN]
theorem s_isN : Op2 K .leaf (fun x y H Q => y = .non ∧ Q (.bl (decide (x = .non))) H) isND := by
  intro F H x y d e z Q sm hx hy hf ok
  unfold isND at hf
  split at hf
  · cases hf
    exact ⟨hy.nonE, by rw [hx.non_iff]; exact ok.here sm (.bl _)⟩
  · cases hf
theorem s_notN : Op2 K .leaf (fun x y H Q => y = .non ∧ Q (.bl (!decide (x = .non))) H) notND := by
  intro F H x y d e z Q sm hx hy hf ok
  unfold notND at hf
  split at hf
  · cases hf
    exact ⟨hy.nonE, by rw [hx.non_iff]; exact ok.here sm (.bl _)⟩
  · cases hf

/-! ### + -/
def addD : D → D → Option D
  | .int i, .int j => some (.int (i + j))
  | .str x, .str y => if x.length + y.length ≤ 16777216 then some (.str (x ++ y)) else none
  | .tup xs, .tup ys => if xs.length + ys.length ≤ 16777216 then some (.tup (xs ++ ys)) else none
  | .lst xs, .lst ys => if xs.length + ys.length ≤ 16777216 then some (.lst (xs ++ ys)) else none
  | _, _ => none
abbrev rAddA (K : PySem.W.Frag) : R2 := fun x y H Q => (rI0 fun i j => .int (i + j)) x y H Q ∨ (∃ i j, x = .str i ∧ y = .str j ∧ i.length + j.length ≤ sizeLine ∧ Q (.str (i ++ j)) H) ∨ rCatF K x y H Q ∨ rCat x y H Q
theorem op_addA {X : Cx} : OpR X (binaryOp .Add) (rAddA X.K) := op_add.or (op_add_str.or (op_catF.or op_cat))
theorem rep_key {K : PySem.W.Frag} {F : Hp} : ∀ k : Key, ascK k = true → Rep K F (kV k) (keyD k)
  | .inl i, _ => .int i
  | .inr x, h => .str x h
theorem reps_keys {K : PySem.W.Frag} {F : Hp} : ∀ ks : List Key, ks.all ascK = true → Reps K F (ks.map kV) (ks.map keyD)
  | [], _ => .nil
  | k :: ks, h => by
    rw [List.all_cons, Bool.and_eq_true] at h
    exact .cons (rep_key k h.1) (reps_keys ks h.2)
theorem Vw.keyR {F H : Hp} (sm : Sub F H) {v : V} {ks : List Key} (h : Vw K F H v (.key ks)) : ∃ p, v = .ref p ∧ SqT K H p (ks.map kV) ∧ Reps K F (ks.map kV) (ks.map keyD) := by
  obtain ⟨p, e1, e2, e3⟩ := h.keyE
  exact ⟨p, e1, .of (sm _ _ e2), reps_keys ks e3⟩
theorem Vw.tupR {F H : Hp} (sm : Sub F H) {v : V} {ds : List D} (h : Vw K F H v (.tup ds)) : ∃ p vs, v = .ref p ∧ SqT K H p vs ∧ TupF F p vs ∧ Reps K F vs ds := by
  obtain ⟨p, vs, e1, e2, e3⟩ := h.tupE
  exact ⟨p, vs, e1, (e2.mono sm).sq K, e2, e3⟩
theorem s_add : Op2 K .leaf (rAddA K) addD := by
  intro F H x y d e z Q sm hx hy hf ok
  unfold addD at hf
  split at hf
  · cases hf
    exact .inl ⟨_, _, hx.intE, hy.intE, ok.here sm (.int _)⟩
  · split at hf
    · rename_i c
      cases hf
      exact .inr (.inl ⟨_, _, hx.strE.1, hy.strE.1, line_ok c, ok.here sm (.str _ (asc_cat hx.strE.2 hy.strE.2 c))⟩)
    · cases hf
  · split at hf
    · rename_i c
      cases hf
      obtain ⟨p, vs, e1, e2, e2', e3⟩ := hx.tupR sm
      obtain ⟨q, ws, e4, e5, e5', e6⟩ := hy.tupR sm
      refine .inr (.inr (.inl ⟨p, q, vs, ws, e1, e4, e2, e5, ?_, fun z => ?_, fun z z' => ?_, fun _ _ t us nt => ok.newT sm (e3.append e6) nt⟩))
      · rw [e3.length, e6.length]; exact line_ok c
      · subst z
        cases e3
        exact ok.here sm (.tup e5' e6)
      · subst z'
        cases e6
        rw [List.append_nil] at ok
        exact ok.here sm (.tup e2' e3)
    · cases hf
  · split at hf
    · rename_i c
      cases hf
      obtain ⟨p, vs, e1, e2, e3⟩ := hx.lstE sm
      obtain ⟨q, ws, e4, e5, e6⟩ := hy.lstE sm
      refine .inr (.inr (.inr ⟨p, q, vs, ws, e1, e4, e2, e5, ?_, fun t nt => ok.newLf sm (e3.append e6) nt⟩))
      rw [e3.length, e6.length]; exact line_ok c
    · cases hf
  · cases hf
/-- two lists: a new one, owned -/
def catD : D → D → Option D
  | .lst xs, .lst ys => if xs.length + ys.length ≤ 16777216 then some (.lst (xs ++ ys)) else none
  | _, _ => none
theorem s_cat : Op2 K (.lst .leaf) rCat catD := by
  intro F H x y d e z Q sm hx hy hf ok
  unfold catD at hf
  split at hf
  · split at hf
    · rename_i c
      cases hf
      obtain ⟨p, vs, e1, e2, e3⟩ := hx.lstE sm
      obtain ⟨q, ws, e4, e5, e6⟩ := hy.lstE sm
      refine ⟨p, q, vs, ws, e1, e4, e2, e5, ?_, fun t nt => ok.newL sm (e3.append e6) nt⟩
      rw [e3.length, e6.length]; exact line_ok c
    · cases hf
  · cases hf

/-! ### * -/
def repS (x : Str) (k : Nat) : Str := ⟨(List.replicate k x.cps.toList).flatten.toArray⟩
theorem foldl_cat (x : Array Nat) : ∀ (k : Nat) (a : Array Nat), ((List.replicate k x).foldl (· ++ ·) a).toList = a.toList ++ (List.replicate k x.toList).flatten
  | 0, a => by simp
  | k + 1, a => by
    rw [List.replicate_succ, List.foldl_cons, foldl_cat x k (a ++ x), List.replicate_succ, List.flatten_cons, Array.toList_append, List.append_assoc]
theorem op_mul_str {X : Cx} : OpR X (binaryOp .Mult) (fun x y H Q => ∃ z k, x = .str z ∧ y = .int k ∧ 0 ≤ k ∧ k ≤ 1000 ∧ z.length ≤ 1000 ∧ Q (.str (repS z k.toNat)) H) := by
  intro pins s σ H x y v u Q I rx ry ⟨z, k, ex, ey, h0, h1, h2, q⟩
  subst ex ey
  obtain ⟨t, rfl⟩ := rx
  obtain ⟨t', rfl⟩ := ry
  have key : ∀ n : Nat, n = k.toNat → (repS z n).cps.toList = (List.replicate n z.cps.toList).flatten := fun n _ => by simp [repS]
  have hsz : z.length * k.toNat ≤ 1000000 := by
    have h3 : k.toNat ≤ 1000 := by omega
    have h4 : z.length * k.toNat ≤ 1000 * 1000 := Nat.mul_le_mul h2 h3
    omega
  refine PySem.P.mul_str (by rw [decide_eq_false (by omega), decide_eq_false (by omega)]; rfl) (fun c1 c2 c3 => ?_) (fun _ _ => ?_) ?_
  · have h3 : (z.length : Int) ≤ 1000 := by omega
    have h4 : (1000 : Int) ≤ (2 ^ 63 - 1) / k := by
      refine (Int.le_ediv_iff_mul_le (by omega)).mpr ?_
      have : (1000 : Int) * k ≤ 1000 * 1000 := Int.mul_le_mul_of_nonneg_left h1 (by omega)
      omega
    omega
  · unfold Builtin.Str.tooLong
    rw [sizeLine_eq]
    exact decide_eq_false (by omega)
  · by_cases c1 : k < 1
    · rw [if_pos c1]
      have e0 : k.toNat = 0 := by omega
      rw [e0] at q
      refine ⟨by decide, .str Str.empty, H, I.tok _, ⟨_, rfl⟩, ?_⟩
      exact q
    · rw [if_neg c1]
      by_cases c2 : (k == 1 || z.length == 0) = true
      · rw [if_pos c2]
        have e1 : repS z k.toNat = z := by
          refine TL.ext_tl ?_
          show (repS z k.toNat).cps.toList = z.cps.toList
          rw [key _ rfl]
          rcases (Bool.or_eq_true _ _).mp c2 with c | c
          · have : k.toNat = 1 := by have := eq_of_beq c; omega
            rw [this]; simp
          · have : z.cps.toList = [] := by
              have q1 : z.length = 0 := eq_of_beq c
              have q2 : z.cps.toList.length = 0 := by rw [Array.length_toList]; exact q1
              exact List.eq_nil_of_length_eq_zero q2
            rw [this]; simp
        rw [e1] at q
        exact ⟨.str z, H, I, ⟨_, rfl⟩, q⟩
      · rw [if_neg c2]
        have e1 : (⟨(List.replicate k.toNat z.cps).foldl (· ++ ·) #[]⟩ : Str) = repS z k.toNat := by
          refine TL.ext_tl ?_
          show ((List.replicate k.toNat z.cps).foldl (· ++ ·) #[]).toList = (repS z k.toNat).cps.toList
          rw [key _ rfl, foldl_cat]
          simp
        rw [e1]
        refine ⟨?_, .str _, H, I.tok _, ⟨_, rfl⟩, q⟩
        show (repS z k.toNat).cps.size ≤ sizeLine
        rw [← Array.length_toList, key _ rfl, List.length_flatten, List.map_replicate, List.sum_replicate_nat, Array.length_toList, sizeLine_eq]
        have : k.toNat * z.cps.size = z.length * k.toNat := Nat.mul_comm _ _
        omega
def mulOk (i j : Int) : Bool := decide (-(2 ^ 64) < i ∧ i < 2 ^ 64) || decide (-(2 ^ 64) < j ∧ j < 2 ^ 64) || (decide (i.natAbs < 2 ^ 4000) && decide (j.natAbs < 2 ^ 4000))
def mulD : D → D → Option D
  | .int i, .int j => if mulOk i j = true then some (.int (i * j)) else none
  | .str x, .int k => if 0 ≤ k ∧ k ≤ 1000 ∧ x.length ≤ 1000 then some (.str (repS x k.toNat)) else none
  | .tup xs, .int k => if 2 ≤ k ∧ k ≤ 1000 ∧ xs.length ≤ 1000 ∧ xs.length ≠ 0 then some (.tup (List.replicate k.toNat xs).flatten) else none
  | .lst xs, .int k => if 0 ≤ k ∧ k ≤ 1000 ∧ xs.length ≤ 1000 then some (.lst (List.replicate k.toNat xs).flatten) else none
  | _, _ => none
abbrev rMulA (K : PySem.W.Frag) : R2 := fun x y H Q => (rI CMul fun i j => .int (i * j)) x y H Q ∨ (rI CMulW fun i j => .int (i * j)) x y H Q ∨ (∃ z k, x = .str z ∧ y = .int k ∧ 0 ≤ k ∧ k ≤ 1000 ∧ z.length ≤ 1000 ∧ Q (.str (repS z k.toNat)) H) ∨ rRepF K x y H Q ∨ rRep x y H Q
theorem op_mulA {X : Cx} : OpR X (binaryOp .Mult) (rMulA X.K) := op_mul.or (op_mulW.or (op_mul_str.or (op_repF.or op_rep)))
theorem asc_rep {x : Str} (h : asc x = true) {k : Nat} (hk : k ≤ 1000) (hl : x.length ≤ 1000) : asc (repS x k) = true := by
  have e : (repS x k).cps.toList = (List.replicate k x.cps.toList).flatten := by simp [repS]
  refine asc_mk (fun c m => ?_) ?_
  · rw [e, List.mem_flatten] at m
    obtain ⟨l, m1, m2⟩ := m
    rw [List.mem_replicate] at m1
    rw [m1.2] at m2
    exact (ascE h).1 c m2
  · show (repS x k).cps.size ≤ _
    rw [← Array.length_toList, e, List.length_flatten, List.map_replicate, List.sum_replicate_nat, Array.length_toList]
    have : k * x.cps.size ≤ 1000 * 1000 := Nat.mul_le_mul hk hl
    omega
theorem len_rep {α : Type} (k : Nat) (xs : List α) : (List.replicate k xs).flatten.length = k * xs.length := by
  rw [List.length_flatten, List.map_replicate, List.sum_replicate_nat]
theorem s_mul : Op2 K .leaf (rMulA K) mulD := by
  intro F H x y d e z Q sm hx hy hf ok
  unfold mulD at hf
  split at hf
  · split at hf
    · rename_i i j c
      cases hf
      unfold mulOk at c
      rw [Bool.or_eq_true, Bool.or_eq_true, Bool.and_eq_true, decide_eq_true_eq, decide_eq_true_eq, decide_eq_true_eq, decide_eq_true_eq] at c
      rcases c with (c | c) | c
      · exact .inl ⟨_, _, hx.intE, hy.intE, .inl c, ok.here sm (.int _)⟩
      · exact .inl ⟨_, _, hx.intE, hy.intE, .inr c, ok.here sm (.int _)⟩
      · exact .inr (.inl ⟨_, _, hx.intE, hy.intE, wide_mul c.1 c.2 (by decide) (by decide) (by decide), ok.here sm (.int _)⟩)
    · cases hf
  · split at hf
    · rename_i c
      cases hf
      exact .inr (.inr (.inl ⟨_, _, hx.strE.1, hy.intE, c.1, c.2.1, c.2.2, ok.here sm (.str _ (asc_rep hx.strE.2 (by omega) c.2.2))⟩))
    · cases hf
  · split at hf
    · rename_i c
      cases hf
      obtain ⟨p, vs, e1, e2, e2', e3⟩ := hx.tupR sm
      refine .inr (.inr (.inr (.inl ⟨p, _, vs, e1, hy.intE, e2, fun z => ?_, c.1, c.2.1, by rw [e3.length]; exact c.2.2.1, fun t us nt => ok.newT sm (e3.replicate _) nt⟩)))
      subst z
      cases e3
      exact c.2.2.2 rfl
    · cases hf
  · split at hf
    · rename_i k c
      cases hf
      obtain ⟨p, vs, e1, e2, e3⟩ := hx.lstE sm
      refine .inr (.inr (.inr (.inr ⟨p, _, vs, e1, hy.intE, e2, by omega, by omega, ?_, fun t nt => ok.newLf sm (e3.replicate _) nt⟩)))
      rw [e3.length, sizeLine_eq]
      have h3 : k.toNat ≤ 1000 := by omega
      have : _ * k.toNat ≤ 1000 * 1000 := Nat.mul_le_mul c.2.2 h3
      omega
    · cases hf
  · cases hf
end
end VL
/-! V5: items, slices, in, len, list, tuple, isinstance, all, any, sum, min, max, int, join, find, upper. -/
namespace VL
open PySem PySem.Spec L2

/-! ### keys -/
def keyK : D → Option Key
  | .int i => some (.inl i)
  | .str x => some (.inr x)
  | _ => none
def keyTs : List D → Option (List Key)
  | [] => some []
  | d :: ds => (keyK d).bind fun k => (keyTs ds).bind fun ks => some (k :: ks)
def keyT : D → Option (List Key)
  | .key ks => some ks
  | _ => none
def look {κ : Type} [DecidableEq κ] (ds : List (κ × D)) (k : κ) : Option D := (ds.find? fun kv => decide (kv.1 = k)).map Prod.snd
def put {κ : Type} [DecidableEq κ] (ds : List (κ × D)) (k : κ) (d : D) : List (κ × D) := if (ds.any fun kv => decide (kv.1 = k)) = true then ds.map fun kv => if kv.1 = k then (kv.1, d) else kv else ds ++ [(k, d)]
section
variable {K : PySem.W.Frag} {F H : Hp}
theorem keyKE {v : V} {d : D} {k : Key} (h : Vw K F H v d) (e : keyK d = some k) : v = kV k := by
  unfold keyK at e
  split at e
  · cases e; exact h.intE
  · cases e; exact h.strE.1
  · cases e
theorem keyTsE : ∀ {vs : List V} {ds : List D} {ks : List Key}, Reps K F vs ds → keyTs ds = some ks → vs = ks.map kV
  | _, _, _, .nil, e => by cases e; rfl
  | _, d :: ds, ks, .cons h t, e => by
    have e' : ((keyK d).bind fun k => (keyTs ds).bind fun ks => some (k :: ks)) = some ks := e
    cases e1 : keyK d with
    | none => rw [e1] at e'; cases e'
    | some k =>
      cases e2 : keyTs ds with
      | none => rw [e1, e2] at e'; cases e'
      | some ls =>
        rw [e1, e2] at e'
        cases e'
        rw [keyKE (F := F) (H := F) (.rep h) e1, keyTsE t e2]
        rfl
theorem keyTE (sm : Sub F H) {v : V} {d : D} {k : List Key} (h : Vw K F H v d) (e : keyT d = some k) : ∃ b, v = .ref b ∧ H b = some (.tup (k.map kV)) := by
  unfold keyT at e
  split at e
  · obtain ⟨p, e1, e2, _⟩ := h.keyE
    cases e
    exact ⟨p, e1, sm _ _ e2⟩
  · cases e
theorem look_val {κ : Type} [DecidableEq κ] (k : κ) : ∀ {kvs : List (κ × V)} {ds : List (κ × D)}, kvs.map Prod.fst = ds.map Prod.fst → Reps K F (kvs.map Prod.snd) (ds.map Prod.snd) →
    (look ds k = none → valV kvs k = none) ∧ ∀ d, look ds k = some d → ∃ v, valV kvs k = some v ∧ Rep K F v d
  | [], [], _, _ => ⟨fun _ => rfl, fun d h => by simp [look] at h⟩
  | [], _ :: _, e, _ => by cases e
  | _ :: _, [], e, _ => by cases e
  | (a, v) :: kvs, (b, d) :: ds, e, r => by
    have e1 : a = b := (List.cons.inj e).1
    have e2 := (List.cons.inj e).2
    subst e1
    cases r with
    | cons h t =>
      obtain ⟨i1, i2⟩ := look_val k e2 t
      by_cases c : a = k
      · refine ⟨fun z => by simp [look, c] at z, fun x z => ?_⟩
        have : d = x := by simpa [look, c] using z
        subst this
        exact ⟨v, by simp [valV, c], h⟩
      · have l1 : look ((a, d) :: ds) k = look ds k := by simp [look, c]
        have l2 : valV ((a, v) :: kvs) k = valV kvs k := by simp [valV, c]
        rw [l1, l2]
        exact ⟨i1, i2⟩
theorem look_some {κ : Type} [DecidableEq κ] (k : κ) {kvs : List (κ × V)} {ds : List (κ × D)} (e : kvs.map Prod.fst = ds.map Prod.fst) (r : Reps K F (kvs.map Prod.snd) (ds.map Prod.snd)) : (valV kvs k).isSome = (look ds k).isSome := by
  obtain ⟨l1, l2⟩ := look_val k e r
  cases e3 : look ds k with
  | none => rw [l1 e3]; rfl
  | some d => obtain ⟨w, w1, _⟩ := l2 d e3; rw [w1] <;> rfl
theorem any_key {κ : Type} [DecidableEq κ] (k : κ) : ∀ {kvs : List (κ × V)} {ds : List (κ × D)}, kvs.map Prod.fst = ds.map Prod.fst → (kvs.any fun kv => decide (kv.1 = k)) = ds.any fun kv => decide (kv.1 = k)
  | [], [], _ => rfl
  | [], _ :: _, e => by cases e
  | _ :: _, [], e => by cases e
  | (a, v) :: kvs, (b, d) :: ds, e => by
    have e1 : a = b := (List.cons.inj e).1
    subst e1
    simp only [List.any_cons, any_key k (List.cons.inj e).2]
theorem put_keys {κ : Type} [DecidableEq κ] (k : κ) (v : V) (d : D) {kvs : List (κ × V)} {ds : List (κ × D)} (e : kvs.map Prod.fst = ds.map Prod.fst) : (putK kvs k v).map Prod.fst = (put ds k d).map Prod.fst := by
  unfold putK put
  rw [any_key k e]
  have m1 : ∀ l : List (κ × V), (l.map fun kv => if kv.1 = k then (kv.1, v) else kv).map Prod.fst = l.map Prod.fst := fun l => by
    rw [List.map_map]; exact List.map_congr_left fun x _ => by show (if x.1 = k then (x.1, v) else x).1 = x.1; split <;> rfl
  have m2 : ∀ l : List (κ × D), (l.map fun kv => if kv.1 = k then (kv.1, d) else kv).map Prod.fst = l.map Prod.fst := fun l => by
    rw [List.map_map]; exact List.map_congr_left fun x _ => by show (if x.1 = k then (x.1, d) else x).1 = x.1; split <;> rfl
  split
  · rw [m1, m2, e]
  · rw [List.map_append, List.map_append, e]; rfl
theorem repl_reps {κ : Type} [DecidableEq κ] (k : κ) {v : V} {d : D} (r : Rep K F v d) : ∀ {kvs : List (κ × V)} {ds : List (κ × D)}, kvs.map Prod.fst = ds.map Prod.fst → Reps K F (kvs.map Prod.snd) (ds.map Prod.snd) →
    Reps K F ((kvs.map fun kv => if kv.1 = k then (kv.1, v) else kv).map Prod.snd) ((ds.map fun kv => if kv.1 = k then (kv.1, d) else kv).map Prod.snd)
  | [], [], _, _ => .nil
  | [], _ :: _, e, _ => by cases e
  | _ :: _, [], e, _ => by cases e
  | x :: kvs, y :: ds, e, q => by
    have e1 : x.1 = y.1 := (List.cons.inj e).1
    cases q with
    | cons h t =>
      refine .cons ?_ (repl_reps k r (List.cons.inj e).2 t)
      show Rep K F (if x.1 = k then (x.1, v) else x).2 (if y.1 = k then (y.1, d) else y).2
      rw [e1]
      split
      · exact r
      · exact h
theorem put_reps {κ : Type} [DecidableEq κ] (k : κ) {v : V} {d : D} (r : Rep K F v d) {kvs : List (κ × V)} {ds : List (κ × D)} (e : kvs.map Prod.fst = ds.map Prod.fst) (q : Reps K F (kvs.map Prod.snd) (ds.map Prod.snd)) : Reps K F ((putK kvs k v).map Prod.snd) ((put ds k d).map Prod.snd) := by
  unfold putK put
  rw [any_key k e]
  split
  · exact repl_reps k r e q
  · rw [List.map_append, List.map_append]
    exact q.append (.cons r .nil)
theorem put_len {κ : Type} [DecidableEq κ] (k : κ) (v : V) (d : D) {kvs : List (κ × V)} {ds : List (κ × D)} (e : kvs.map Prod.fst = ds.map Prod.fst) : kvs.length = ds.length := by
  have := congrArg List.length e
  simpa using this
end

/-! ### items -/
def ixD : D → D → Option D
  | .lst ds, .int i => atI ds i
  | .tup ds, .int i => atI ds i
  | .key ks, .int i => atI (ks.map keyD) i
  | .str z, .int i => (atI z.cps.toList i).bind fun c => some (.str ⟨#[c]⟩)
  | .dK kvs, k => (keyK k).bind fun q => look kvs q
  | .dT kvs, k => (keyT k).bind fun q => look kvs q
  | _, _ => none
abbrev rIxD : R2 := fun x y H Q => ∃ a v, x = .ref a ∧ DGet H a y (some v) ∧ Q v H
theorem ix_dict {X : Cx} (hu : X.A.units + 1 < cLine) : IxR X rIxD := by
  intro value slice pins s σ H x y v u Q I rx ry ⟨a, w, ex, g, q⟩ hs
  subst ex
  cases rx
  exact PyProof.Rows.tail_any (dict_typeIs I g) PySem.F.slot_dict_getitem.lookup (d_getItem hu I g ry fun w' s3 I3 rw' => ⟨w, H, I3, rw', q⟩) hs
abbrev rIxA (K : PySem.W.Frag) : R2 := fun x y H Q => rIxD x y H Q ∨ rIx K x y H Q
theorem ix_all {X : Cx} (hu : X.A.units + 1 < cLine) : IxR X (rIxA X.K) := (ix_dict hu).or ix_seq
section
variable {K : PySem.W.Frag}
theorem atI_reps {F : Hp} {vs : List V} {ds : List D} (r : Reps K F vs ds) {i : Int} {d : D} (h : atI ds i = some d) : ∃ v, atI vs i = some v ∧ Rep K F v d := by
  unfold atI at h ⊢
  rw [r.length]
  cases e : ixN ds.length i with
  | none => rw [e] at h; cases h
  | some j => rw [e] at h; exact r.get h
theorem atI_mem {α : Type} {xs : List α} {i : Int} {c : α} (h : atI xs i = some c) : c ∈ xs := by
  unfold atI at h
  cases e : ixN xs.length i with
  | none => rw [e] at h; cases h
  | some j => rw [e] at h; exact List.mem_of_getElem? h
theorem s_ix : Op2 K .leaf (rIxA K) ixD := by
  intro F H x y d e z Q sm hx hy hf ok
  unfold ixD at hf
  split at hf
  · obtain ⟨p, vs, e1, e2, e3⟩ := hx.lstE sm
    obtain ⟨w, q1, q2⟩ := atI_reps e3 hf
    exact .inr (.inl ⟨p, vs, _, w, e1, hy.intE, .of e2, q1, ok.here sm q2⟩)
  · obtain ⟨p, vs, e1, e2, _, e3⟩ := hx.tupR sm
    obtain ⟨w, q1, q2⟩ := atI_reps e3 hf
    exact .inr (.inr (.inl ⟨p, vs, _, w, e1, hy.intE, e2, q1, ok.here sm q2⟩))
  · obtain ⟨p, e1, e2, e3⟩ := hx.keyR sm
    obtain ⟨w, q1, q2⟩ := atI_reps e3 hf
    exact .inr (.inr (.inl ⟨p, _, _, w, e1, hy.intE, e2, q1, ok.here sm q2⟩))
  · rename_i zz i
    cases e : atI zz.cps.toList i with
    | none => rw [e] at hf; cases hf
    | some c =>
      rw [e] at hf
      cases hf
      exact .inr (.inr (.inr ⟨zz, i, c, hx.strE.1, hy.intE, asc_line hx.strE.2, e, ok.here sm (.str _ (asc_one hx.strE.2 (atI_mem e)))⟩))
  · cases e : keyK _ with
    | none => rw [e] at hf; cases hf
    | some k =>
      rw [e] at hf
      obtain ⟨p, kvs, e1, e2, e3, e4⟩ := hx.dKE sm
      obtain ⟨w, q1, q2⟩ := (look_val k e3 e4).2 _ hf
      refine .inl ⟨p, w, e1, ?_, ok.here sm q2⟩
      rw [keyKE hy e, ← q1]
      exact .inl ⟨_, _, e2, rfl, rfl⟩
  · cases e : keyT _ with
    | none => rw [e] at hf; cases hf
    | some k =>
      rw [e] at hf
      obtain ⟨p, kvs, e1, e2, e3, e4⟩ := hx.dTE sm
      obtain ⟨w, q1, q2⟩ := (look_val k e3 e4).2 _ hf
      obtain ⟨b, b1, b2⟩ := keyTE sm hy e
      refine .inl ⟨p, w, e1, ?_, ok.here sm q2⟩
      rw [b1, ← q1]
      exact .inr ⟨_, _, _, e2, rfl, b2, rfl⟩
  · cases hf

/-! ### in -/
abbrev rInA (K : PySem.W.Frag) (neg : Bool) : R2 := fun x y H Q => ∃ d ds, Dp K H x d ∧ (Dp K H y (.list ds) ∨ Dp K H y (.tuple ds)) ∧ d.canLay0 = true ∧ PyData.canLayAll0 ds = true ∧ d.depth ≤ 60 ∧ Q (.bl (if neg then !ds.any fun z => PyData.eqv z d else ds.any fun z => PyData.eqv z d)) H
abbrev rInDk (neg : Bool) : R2 := fun y x H Q => ∃ a o, x = .ref a ∧ DGet H a y o ∧ Q (.bl (if neg then !o.isSome else o.isSome)) H
abbrev rInStr (neg : Bool) : R2 := fun x y H Q => ∃ i j, x = .str i ∧ y = .str j ∧ Q (.bl (if neg then !(!(Builtin.Str.occurrences j i 0 j.length 1).isEmpty) else !(Builtin.Str.occurrences j i 0 j.length 1).isEmpty)) H
theorem op_inA {X : Cx} (hu : X.A.units + 64 < cLine) : OpR X (compareOp .In) (rInA X.K false) := by
  intro pins s σ H x y v u Q I rx ry ⟨d, ds, hd, he, l1, l2, hm, q⟩
  obtain ⟨as, r1⟩ := Dp.reads I d x v hd rx
  rcases he with he | he
  · obtain ⟨bs, r2⟩ := Dp.reads I _ y u he ry
    exact SeqAt.in_list_reads r2 r1 l2 l1 (by omega) ⟨.bl _, H, I, rfl, q⟩
  · obtain ⟨bs, r2⟩ := Dp.reads I _ y u he ry
    exact SeqAt.in_tuple_reads r2 r1 l2 l1 (by omega) ⟨.bl _, H, I, rfl, q⟩
theorem op_ninA {X : Cx} (hu : X.A.units + 64 < cLine) : OpR X (compareOp .NotIn) (rInA X.K true) := by
  intro pins s σ H x y v u Q I rx ry ⟨d, ds, hd, he, l1, l2, hm, q⟩
  obtain ⟨as, r1⟩ := Dp.reads I d x v hd rx
  rcases he with he | he
  · obtain ⟨bs, r2⟩ := Dp.reads I _ y u he ry
    exact SeqAt.notIn_list_reads r2 r1 l2 l1 (by omega) ⟨.bl _, H, I, rfl, q⟩
  · obtain ⟨bs, r2⟩ := Dp.reads I _ y u he ry
    exact SeqAt.notIn_tuple_reads r2 r1 l2 l1 (by omega) ⟨.bl _, H, I, rfl, q⟩
theorem op_inDk {X : Cx} (hu : X.A.units + 1 < cLine) : OpR X (compareOp .In) (rInDk false) := by
  intro pins s σ H y x v u Q I ry rx ⟨a, o, ex, g, q⟩
  subst ex
  cases rx
  exact d_in hu I g ry fun s3 I3 => ⟨.bl _, H, I3, rfl, q⟩
theorem op_ninDk {X : Cx} (hu : X.A.units + 1 < cLine) : OpR X (compareOp .NotIn) (rInDk true) := by
  intro pins s σ H y x v u Q I ry rx ⟨a, o, ex, g, q⟩
  subst ex
  cases rx
  exact d_notIn hu I g ry fun s3 I3 => ⟨.bl _, H, I3, rfl, q⟩
abbrev rInU (K : PySem.W.Frag) (neg : Bool) : R2 := fun x y H Q => rInStr neg x y H Q ∨ rInA K neg x y H Q ∨ rInDk neg x y H Q
theorem op_inU {X : Cx} (hu : X.A.units + 64 < cLine) : OpR X (compareOp .In) (rInU X.K false) := OpR.or (r := rInStr false) op_in_str ((op_inA hu).or (op_inDk (by omega)))
theorem op_ninU {X : Cx} (hu : X.A.units + 64 < cLine) : OpR X (compareOp .NotIn) (rInU X.K true) := OpR.or (r := rInStr true) op_notin_str ((op_ninA hu).or (op_ninDk (by omega)))
def memD (d : D) (ds : List D) : Bool := ds.any fun z => eqv z d
def memOk (d : D) (ds : List D) : Bool := d.py && pyL ds && decide (d.toPy.depth ≤ 60)
def inB (d : D) : D → Option Bool
  | .str y => (match d with | .str x => some (!(Builtin.Str.occurrences y x 0 y.length 1).isEmpty) | _ => none)
  | .lst ds => if memOk d ds = true then some (memD d ds) else none
  | .tup ds => if memOk d ds = true then some (memD d ds) else none
  | .key ks => if memOk d (ks.map keyD) = true then some (memD d (ks.map keyD)) else none
  | .dK kvs => (keyK d).bind fun k => some (look kvs k).isSome
  | .dT kvs => (keyT d).bind fun k => some (look kvs k).isSome
  | _ => none
def inD (d e : D) : Option D := (inB d e).bind fun c => some (.bl c)
def ninD (d e : D) : Option D := (inB d e).bind fun c => some (.bl (!c))
theorem any_toPy (p : PyData) : ∀ ds : List D, (toPyL ds).any (fun z => PyData.eqv z p) = ds.any fun z => PyData.eqv z.toPy p
  | [] => by rw [toPyL]; rfl
  | d :: ds => by rw [toPyL, List.any_cons, List.any_cons, any_toPy p ds]
theorem s_inU (neg : Bool) : Op2 K .leaf (rInU K neg) (fun d e => (inB d e).bind fun c => some (.bl (if neg then !c else c))) := by
  intro F H x y d e z Q sm hx hy hf ok
  dsimp only at hf
  cases e1 : inB d e with
  | none => rw [e1] at hf; cases hf
  | some c =>
    rw [e1] at hf
    cases hf
    have sc : ∀ {ds : List D}, memOk d ds = true → d.py = true ∧ pyL ds = true ∧ d.toPy.depth ≤ 60 := fun {ds} h => by
      unfold memOk at h
      rw [Bool.and_eq_true, Bool.and_eq_true, decide_eq_true_eq] at h
      exact ⟨h.1.1, h.1.2, h.2⟩
    unfold inB at e1
    split at e1
    · split at e1
      · cases e1
        exact .inl ⟨_, _, hx.strE.1, hy.strE.1, ok.here sm (.bl _)⟩
      · cases e1
    · rename_i ds
      split at e1
      · rename_i cc
        cases e1
        obtain ⟨h1, h2, h3⟩ := sc cc
        obtain ⟨a1, a2⟩ := (hx.whole sm (py_nod h1)).dp h1
        obtain ⟨p, vs, q1, q2, q3⟩ := hy.lstE sm
        obtain ⟨b1, b2⟩ := (q3.mono sm.sm).dp h2
        subst q1
        refine .inr (.inl ⟨_, _, a1, .inl (.lst (.inl (.inl q2)) b1), a2, b2, h3, ?_⟩)
        rw [any_toPy]
        exact ok.here sm (.bl _)
      · cases e1
    · rename_i ds
      split at e1
      · rename_i cc
        cases e1
        obtain ⟨h1, h2, h3⟩ := sc cc
        obtain ⟨a1, a2⟩ := (hx.whole sm (py_nod h1)).dp h1
        obtain ⟨p, vs, q1, q2, _, q3⟩ := hy.tupR sm
        obtain ⟨b1, b2⟩ := (q3.mono sm.sm).dp h2
        subst q1
        refine .inr (.inl ⟨_, _, a1, .inr (.tup q2 b1), a2, b2, h3, ?_⟩)
        rw [any_toPy]
        exact ok.here sm (.bl _)
      · cases e1
    · rename_i ks
      split at e1
      · rename_i cc
        cases e1
        obtain ⟨h1, h2, h3⟩ := sc cc
        obtain ⟨a1, a2⟩ := (hx.whole sm (py_nod h1)).dp h1
        obtain ⟨p, q1, q2, q3⟩ := hy.keyR sm
        obtain ⟨b1, b2⟩ := (q3.mono sm.sm).dp h2
        subst q1
        refine .inr (.inl ⟨_, _, a1, .inr (.tup q2 b1), a2, b2, h3, ?_⟩)
        rw [any_toPy]
        exact ok.here sm (.bl _)
      · cases e1
    · cases e2 : keyK d with
      | none => rw [e2] at e1; cases e1
      | some k =>
        rw [e2] at e1
        cases e1
        obtain ⟨p, kvs, q1, q2, q3, q4⟩ := hy.dKE sm
        refine .inr (.inr ⟨p, valV kvs k, q1, by rw [keyKE hx e2]; exact .inl ⟨_, _, q2, rfl, rfl⟩, ?_⟩)
        rw [look_some k q3 q4]
        exact ok.here sm (.bl _)
    · cases e2 : keyT d with
      | none => rw [e2] at e1; cases e1
      | some k =>
        rw [e2] at e1
        cases e1
        obtain ⟨p, kvs, q1, q2, q3, q4⟩ := hy.dTE sm
        obtain ⟨b, b1, b2⟩ := keyTE sm hx e2
        refine .inr (.inr ⟨p, valV kvs k, q1, by rw [b1]; exact .inr ⟨_, _, _, q2, rfl, b2, rfl⟩, ?_⟩)
        rw [look_some k q3 q4]
        exact ok.here sm (.bl _)
    · cases e1
theorem s_in : Op2 K .leaf (rInU K false) inD := s_inU false
theorem s_nin : Op2 K .leaf (rInU K true) ninD := s_inU true

/-! ### slices -/
def cutL {α : Type} (xs : List α) (lo hi : Option Int) : List α := (xs.drop (HT.sIx xs.length 0 lo)).take (HT.sIx xs.length xs.length hi - HT.sIx xs.length 0 lo)
def cutD (lo hi : Option Int) : D → Option D
  | .lst ds => some (.lst (cutL ds lo hi))
  | .tup ds => some (.tup (cutL ds lo hi))
  | .str z => some (.str ⟨(cutL z.cps.toList lo hi).toArray⟩)
  | .scr ns => some (.lst ((cutL ns lo hi).map .int))
  | _ => none
theorem cut_reps {F : Hp} {vs : List V} {ds : List D} (r : Reps K F vs ds) (lo hi : Option Int) : Reps K F (cutV vs lo hi) (cutL ds lo hi) := by
  unfold cutV cutL
  rw [r.length]
  exact (r.drop _).take _
theorem cut_ints (ns : List Int) (lo hi : Option Int) : cutV (ns.map V.int) lo hi = (cutL ns lo hi).map V.int := by
  unfold cutV cutL
  rw [List.length_map, List.map_take, List.map_drop]
theorem reps_ints {F : Hp} : ∀ ns : List Int, Reps K F (ns.map V.int) (ns.map D.int)
  | [] => .nil
  | n :: ns => .cons (.int n) (reps_ints ns)
abbrev rSlU (K : PySem.W.Frag) : V → Option Int → Option Int → Hp → VK → Prop := fun x lo hi H Q => rSlL K x lo hi H Q ∨ rSlF K x lo hi H Q ∨ rSlS x lo hi H Q
theorem sl_all {X : Cx} : SlR X (rSlU X.K) := sl_list.or (sl_tupF.or sl_str)
theorem s_sl (lo hi : Option Int) : Op1 K .leaf (fun x H Q => rSlU K x lo hi H Q) (cutD lo hi) := by
  intro F H x d z Q sm hx hf ok
  unfold cutD at hf
  split at hf
  · cases hf
    obtain ⟨p, vs, e1, e2, e3⟩ := hx.lstE sm
    exact .inl ⟨p, vs, e1, .of e2, fun t nt => ok.newLf sm (cut_reps e3 lo hi) nt⟩
  · rename_i ds
    cases hf
    obtain ⟨p, vs, e1, e2, e2', e3⟩ := hx.tupR sm
    refine .inr (.inl ⟨p, vs, e1, e2, fun w => ?_, fun _ t us nt => ok.newT sm (cut_reps e3 lo hi) nt⟩)
    have : cutL ds lo hi = ds := by
      unfold cutL
      rw [← e3.length, w.1, w.2, List.drop_zero, Nat.sub_zero, e3.length, List.take_length]
    rw [this] at ok
    exact ok.here sm (.tup e2' e3)
  · rename_i zz
    cases hf
    refine .inr (.inr ⟨zz, hx.strE.1, asc_line hx.strE.2, ?_⟩)
    have e : cutS zz lo hi = ⟨(cutL zz.cps.toList lo hi).toArray⟩ := by
      unfold cutS cutL
      rw [Array.length_toList] <;> rfl
    rw [e]
    refine ok.here sm (.str _ (asc_sub hx.strE.2 (fun c m => ?_) ?_))
    · exact List.mem_of_mem_drop (List.mem_of_mem_take m)
    · unfold cutL
      rw [List.length_take, List.length_drop]
      show _ ≤ zz.cps.size
      rw [← Array.length_toList]
      omega
  · cases hf
    obtain ⟨p, e1, e2⟩ := hx.scrE sm
    refine .inl ⟨p, _, e1, e2, fun t nt => ?_⟩
    rw [cut_ints]
    exact ok.newLf sm (reps_ints _) nt
  · cases hf
/-- a slice of a list, owned -/
def cutLD (lo hi : Option Int) : D → Option D
  | .lst ds => some (.lst (cutL ds lo hi))
  | .scr ns => some (.lst ((cutL ns lo hi).map .int))
  | _ => none
theorem s_slL (lo hi : Option Int) : Op1 K (.lst .leaf) (fun x H Q => rSlL K x lo hi H Q) (cutLD lo hi) := by
  intro F H x d z Q sm hx hf ok
  unfold cutLD at hf
  split at hf
  · cases hf
    obtain ⟨p, vs, e1, e2, e3⟩ := hx.lstE sm
    exact ⟨p, vs, e1, .of e2, fun t nt => ok.newL sm (cut_reps e3 lo hi) nt⟩
  · cases hf
    obtain ⟨p, e1, e2⟩ := hx.scrE sm
    refine ⟨p, _, e1, e2, fun t nt => ?_⟩
    rw [cut_ints]
    exact ok.newL sm (reps_ints _) nt
  · cases hf
end
section
variable {X : Cx} {ks : List Sh} {W : WX} {e a c : Expr} {es : List Expr} {t ta tc : TE} {m : ME} {pos p2 : Pos} {sh : Sh}
structure EPt (X : Cx) (ks : List Sh) (W : WX) (o : Option Expr) (t : TO) (m : DEnv → R (Option Int)) : Prop where
  pe : PO X o t
  sd : ∀ ρ σ F H fp (Q : Option Int → Hp → Prop) {α : Type} (Ok : R α → Prop) (f : Option Int → DEnv → R α), Rel X.K ks F H ρ σ fp → Ok ((m ρ).bind f) → ¬ Ok .no → (∀ e ρ1, Ok (.ex e ρ1) → OkX (bd X ks W) F H fp σ e ρ1) →
    (∀ o ρ1 F1 H1 fp1, Ok (f o ρ1) → Rel X.K ks F1 H1 ρ1 σ fp1 → Ext F H fp F1 H1 fp1 → Q o H1) → t σ H Q
def mNoPart : DEnv → R (Option Int) := fun ρ => .ok none ρ
def asI : D → DEnv → R (Option Int)
  | .int i, ρ => .ok (some i) ρ
  | _, _ => .no
def mPart (m : ME) : DEnv → R (Option Int) := fun ρ => (m ρ).bind asI
theorem ept_none : EPt X ks W none tNoPart mNoPart := ⟨po_none, fun ρ σ F H fp Q _ Ok f r hok _ _ k => k none ρ F H fp hok r .refl⟩
theorem ept_some (h : EV X ks W e .leaf t m) : EPt X ks W (some e) (tPart t) (mPart m) := by
  refine ⟨po_some h.pe, fun ρ σ F H fp Q α Ok f r hok hn hx k => ?_⟩
  unfold mPart at hok
  rw [bind_assoc] at hok
  refine h.sd.go r (Ok := Ok) hok hn hx fun d ρ1 v F1 H1 fp1 h1 r1 x1 p1 => ?_
  cases d with
  | int i =>
    cases p1
    exact ⟨i, rfl, k (some i) ρ1 F1 H1 fp1 h1 r1 x1⟩
  | _ => exact (hn h1).elim
def mSl (f : Option Int → Option Int → D → Option D) (mo : MO) (l h : DEnv → R (Option Int)) : ME := fun ρ => (mo ρ).bind fun o ρ1 => (l ρ1).bind fun i ρ2 => (h ρ2).bind fun j ρ3 => R.of ((o.get ρ3).bind (f i j)) ρ3
theorem ev_slice {lo hi : Option Expr} {tl th : TO} {ml mh : DEnv → R (Option Int)} {mo : MO} {r : V → Option Int → Option Int → Hp → VK → Prop} {f : Option Int → Option Int → D → Option D} (hr : SlR X r) (hs : ∀ lo hi, Op1 X.K sh (fun x H Q => r x lo hi H Q) (f lo hi)) (ha : EO X ks W a ta mo) (hl : EPt X ks W lo tl ml) (hh : EPt X ks W hi th mh) :
    EV X ks W (.Subscript a (.Slice lo hi none p2) pos) sh (tSl r ta tl th) (mSl f mo ml mh) := by
  refine ⟨pe_slice hr ha.pe hl.pe hh.pe, fun ρ σ F H fp Q r0 hok => ?_⟩
  refine ha.sd.go r0 (Ok := OkE (bd X ks W) sh F H fp σ Q) hok (fun z => z) (fun _ _ z => z) fun x ρ1 v F1 H1 fp1 h1 r1 x1 o1 => ?_
  refine hl.sd ρ1 σ F1 H1 fp1 _ (OkE (bd X ks W) sh F1 H1 fp1 σ Q) _ r1 (h1.ext x1) (fun z => z) (fun _ _ z => z) fun i ρ2 F2 H2 fp2 h2 r2 x2 => ?_
  refine hh.sd ρ2 σ F2 H2 fp2 _ (OkE (bd X ks W) sh F2 H2 fp2 σ Q) _ r2 (h2.ext x2) (fun z => z) (fun _ _ z => z) fun j ρ3 F3 H3 fp3 h3 r3 x3 => ?_
  have o3 := (o1.mono (r1.same x2)).mono (r2.same x3)
  cases e1 : x.get ρ3 with
  | none => rw [e1] at h3; exact (show False from h3).elim
  | some d =>
    cases e2 : f i j d with
    | none => rw [e1, Option.bind_some, e2] at h3; exact (show False from h3).elim
    | some z =>
      rw [e1, Option.bind_some, e2] at h3
      exact hs i j F3 H3 v d z Q r3.sub (o3.vw r3 e1) e2 ((h3.ext x3).done r3)
end
end VL
/-! V6: statements; defs with the guards known; calls; the end. -/
namespace VL
open PySem PySem.Spec L2

inductive Fl where
  | nx | rt (d : D)
abbrev MS := DEnv → R Fl
/-- what is wanted of a statement's result; rsh: what a return hands out; fx: the slots ahead of which none is stored anew -/
def OkS (b : Bd) (rsh : Sh) (fx : Nat) (F H : Hp) (fp : List Addr) (σ : St) (D : Ends) : R Fl → Prop
  | .no => False
  | .ok .nx ρ' => ∀ σ' F' H' fp', Rel b.K b.ks F' H' ρ' σ' fp' → Ext F H fp F' H' fp' → σ'.take fx = σ.take fx → D.nx σ' H'
  | .ok (.rt d) ρ' => ∀ v σ' F' H' fp' fv, Rel b.K b.ks F' H' ρ' σ' fp' → (fp' ++ fv).Nodup → Ext F H fp F' H' (fp' ++ fv) → σ'.take fx = σ.take fx → OR b.K F' H' rsh v d fv → D.rt v H'
  | .ex e ρ' => ∀ cls dx σ' F' H' fp', Rel b.K b.ks F' H' ρ' σ' fp' → Ext F H fp F' H' fp' → σ'.take fx = σ.take fx → ExR b F' e cls dx → b.W cls dx σ' H'
def SndS (b : Bd) (rsh : Sh) (fx : Nat) (t : TS) (m : MS) : Prop := ∀ ρ σ F H fp D, Rel b.K b.ks F H ρ σ fp → OkS b rsh fx F H fp σ D (m ρ) → t D σ H
theorem OkS.ext {b : Bd} {rsh : Sh} {fx : Nat} {F H F1 H1 : Hp} {fp f1 : List Addr} {σ σ1 : St} {D : Ends} (a : Ext F H fp F1 H1 f1) (s : σ1.take fx = σ.take fx) : ∀ {r : R Fl}, OkS b rsh fx F H fp σ D r → OkS b rsh fx F1 H1 f1 σ1 D r
  | .no, h => h
  | .ok .nx ρ', h => fun σ' F' H' fp' r x q => h σ' F' H' fp' r (a.trans x) (q.trans s)
  | .ok (.rt d) ρ', h => fun v σ' F' H' fp' fv r n x q o => h v σ' F' H' fp' fv r n (a.trans x) (q.trans s) o
  | .ex e ρ', h => fun cls dx σ' F' H' fp' r x q o => h cls dx σ' F' H' fp' r (a.trans x) (q.trans s) o
theorem OkS.x {b : Bd} {rsh : Sh} {fx : Nat} {F H : Hp} {fp : List Addr} {σ : St} {D : Ends} {e : Ex} {ρ1 : DEnv} (h : OkS b rsh fx F H fp σ D (.ex e ρ1)) : OkX b F H fp σ e ρ1 := fun cls dx F' H' fp' r x q => h cls dx σ F' H' fp' r x rfl q
structure SV (X : Cx) (ks : List Sh) (W : WX) (rsh : Sh) (fx : Nat) (st : Stmt) (t : TS) (m : MS) : Prop where
  pe : PS X st t
  sd : SndS (bd X ks W) rsh fx t m
structure SVs (X : Cx) (ks : List Sh) (W : WX) (rsh : Sh) (fx : Nat) (sts : List Stmt) (t : TS) (m : MS) : Prop where
  pe : PSs X sts t
  sd : SndS (bd X ks W) rsh fx t m
section
variable {X : Cx} {ks : List Sh} {W : WX} {rsh sh : Sh} {fx : Nat} {st : Stmt} {sts : List Stmt} {e a c : Expr} {es : List Expr} {t u : TS} {te tc : TE} {m n : MS} {me mc : ME} {pos : Pos}
def mNx : MS := fun ρ => .ok .nx ρ
def mSeq (m n : MS) : MS := fun ρ => (m ρ).bind fun f ρ1 => match f with | .nx => n ρ1 | .rt d => .ok (.rt d) ρ1
theorem svs_nil : SVs X ks W rsh fx [] tNext mNx := ⟨pss_nil, fun ρ σ F H fp D r h => h σ F H fp r .refl rfl⟩
theorem sv_pass : SV X ks W rsh fx (.Pass pos) tNext mNx := ⟨ps_pass, fun ρ σ F H fp D r h => h σ F H fp r .refl rfl⟩
theorem snd_seq {b : Bd} (h1 : SndS b rsh fx t m) (h2 : SndS b rsh fx u n) : SndS b rsh fx (tSeq t u) (mSeq m n) := by
  intro ρ σ F H fp D r h
  refine h1 ρ σ F H fp { D with nx := u D } r ?_
  unfold mSeq at h
  cases e1 : m ρ with
  | no => rw [e1] at h; exact h
  | ex x ρ1 => rw [e1] at h; exact h
  | ok f ρ1 =>
    rw [e1] at h
    cases f with
    | rt d => exact h
    | nx => exact fun σ1 F1 H1 fp1 r1 x1 q1 => h2 ρ1 σ1 F1 H1 fp1 D r1 (OkS.ext x1 q1 h)
theorem svs_cons (h1 : SV X ks W rsh fx st t m) (h2 : SVs X ks W rsh fx sts u n) : SVs X ks W rsh fx (st :: sts) (tSeq t u) (mSeq m n) := ⟨pss_cons h1.pe h2.pe, snd_seq h1.sd h2.sd⟩
theorem svs_one (h1 : SV X ks W rsh fx st t m) : SVs X ks W rsh fx [st] t m := ⟨pss_one h1.pe, h1.sd⟩
def mDrop (m : ME) : MS := fun ρ => (m ρ).bind fun _ ρ1 => .ok .nx ρ1
theorem sv_expr (h : EV X ks W e .leaf te me) (hs : swapsWith e none pos.line X.env = pure false := by rfl) : SV X ks W rsh fx (.Expr e pos) (tDrop te) (mDrop me) := by
  refine ⟨ps_expr h.pe hs, fun ρ σ F H fp D r hok => ?_⟩
  refine h.sd.go r (Ok := OkS (bd X ks W) rsh fx F H fp σ D) hok (fun z => z) (fun _ _ z => z.x) fun d ρ1 v F1 H1 fp1 h1 r1 x1 p1 => ?_
  exact h1 σ F1 H1 fp1 r1 x1 rfl
/-- a docstring is dropped by the link; return -/
def mRet (m : ME) : MS := fun ρ => (m ρ).bind fun d ρ1 => .ok (.rt d) ρ1
theorem sv_ret (h : EV X ks W e rsh te me) : SV X ks W rsh fx (.Return (some e) pos) (tRet te) (mRet me) := by
  refine ⟨ps_ret h.pe, fun ρ σ F H fp D r hok => h.sd ρ σ F H fp D.rt r ?_⟩
  unfold mRet at hok
  cases em : me ρ with
  | no => rw [em] at hok; exact hok
  | ex x ρ1 => rw [em] at hok; exact OkS.x hok
  | ok d ρ1 => rw [em] at hok; exact fun v F' H' fp' fv r' nd x o => hok v σ F' H' fp' fv r' nd x rfl o
def mIfS (c : MT) (m n : MS) : MS := fun ρ => (c ρ).bind fun k ρ1 => if k = true then m ρ1 else n ρ1
theorem sv_if {x : Expr} {xs ys : List Stmt} {tA : TT} {mt : MT} (hx : ET X ks W x tA mt) (h1 : SVs X ks W rsh fx xs t m) (h2 : SVs X ks W rsh fx ys u n) : SV X ks W rsh fx (.If x xs ys pos) (tIfS tA t u) (mIfS mt m n) := by
  refine ⟨ps_if hx.pe h1.pe h2.pe, fun ρ σ F H fp D r hok => ?_⟩
  refine hx.sd.go r (Ok := OkS (bd X ks W) rsh fx F H fp σ D) hok (fun z => z) (fun _ _ z => z.x) fun k ρ1 F1 H1 fp1 q1 r1 x1 => ?_
  cases k with
  | true => rw [if_pos rfl] at q1 ⊢; exact h1.sd ρ1 σ F1 H1 fp1 D r1 (q1.ext x1 rfl)
  | false => rw [if_neg Bool.false_ne_true] at q1 ⊢; exact h2.sd ρ1 σ F1 H1 fp1 D r1 (q1.ext x1 rfl)

/-! ### a slot stored -/
theorem Rel.store {K : PySem.W.Frag} {F H : Hp} {ρ : DEnv} {σ : St} {fp fv : List Addr} {v : V} {d : D} {i : Nat} (r : Rel K ks F H ρ σ fp) (o : OR K F H sh v d fv) (nd : (fp ++ fv).Nodup) (hk : ks[i]? = some sh) :
    ∃ gp, Rel K ks F H (ρ.set i (some d)) (σ.set i (some v)) gp ∧ ∀ y ∈ gp, y ∈ fp ++ fv := by
  obtain ⟨g, w, sl⟩ := r.sl.wipe1 i
  have l1 := r.sl.lens
  have hi : i < σ.length := by
    rw [← l1.2, ← l1.1]
    exact (List.getElem?_eq_some_iff.mp hk).1
  have w2 := w.setV i (some v)
  obtain ⟨gp, w3, p⟩ := RelL.join o w2 hk (by rw [List.getElem?_set_self hi])
  refine ⟨gp, ⟨r.sub, ?_, w3⟩, fun y m => ?_⟩
  · refine p.nodup_iff.mpr ?_
    have n2 := List.nodup_append.mp nd
    refine List.nodup_append.mpr ⟨n2.2.1, n2.1.sublist sl, fun y m1 z m2 e => ?_⟩
    exact n2.2.2 z (sl.subset m2) y m1 e.symm
  · rcases List.mem_append.mp (p.subset m) with q | q
    · exact List.mem_append_right _ q
    · exact List.mem_append_left _ (sl.subset q)
theorem take_set {σ : St} {i : Nat} {x : Option V} (h : fx ≤ i) : (σ.set i x).take fx = σ.take fx := by
  rw [List.take_set_of_le] <;> exact h
def mSet (i : Nat) (m : ME) : MS := fun ρ => (m ρ).bind fun d ρ1 => .ok .nx (ρ1.set i (some d))
theorem sv_set {i : Nat} {x : Str} {pos' : Pos} (hk : ks[i]? = some sh) (hf : fx ≤ i) (hN : X.N.Nodup) (hi : X.N[i]? = some x) (hx : Loc X.env.scope x) (h : EV X ks W e sh te me) (hs : swapsWith e (some (.Name x pos')) pos.line X.env = pure false := by rfl)
    (hff : X.fn x = true ∨ X.env.scope.names.lookup x = some .local := by first | exact .inl rfl | exact .inr rfl | assumption) : SV X ks W rsh fx (.Assign [.Name x pos'] e pos) (tAsg te (gName i)) (mSet i me) := by
  refine ⟨ps_set hN hi hx h.pe hs hff, fun ρ σ F H fp D r hok => h.sd ρ σ F H fp _ r ?_⟩
  unfold mSet at hok
  cases em : me ρ with
  | no => rw [em] at hok; exact hok
  | ex y ρ1 => rw [em] at hok; exact OkS.x hok
  | ok d ρ1 =>
    rw [em] at hok
    intro v F' H' fp' fv r' nd x' o
    obtain ⟨gp, r2, sb⟩ := r'.store o nd hk
    exact hok (σ.set i (some v)) F' H' gp r2 (x'.sub sb) (take_set hf)
end
end VL
/-! V7: methods that change an owned slot, stores into it, unpacking, loops. -/
namespace VL
open PySem PySem.Spec L2

/-- the data of a slot -/
def own (ρ : DEnv) (i : Nat) : Option D := (ρ[i]?).bind id
/-- a change of the owned list at p: by the data -/
def MtL (K : PySem.W.Frag) (r : V → List V → Hp → VK → Prop) (f : List D → List D → Option (D × List D)) : Prop :=
  ∀ F H p vs ds xs es z ds' Q, Sub F H → F p = none → H p = some (.lst vs) → Reps K F vs ds → Reps K F xs es → f ds es = some (z, ds') → (∀ v vs', Reps K F vs' ds' → Rep K F v z → Q v (upd H p (.lst vs'))) → r (.ref p) xs H Q
def MtDk (K : PySem.W.Frag) (r : V → List V → Hp → VK → Prop) (f : List (Key × D) → List D → Option (D × List (Key × D))) : Prop :=
  ∀ F H p kvs ds xs es z ds' Q, Sub F H → F p = none → H p = some (.dK kvs) → kvs.map Prod.fst = ds.map Prod.fst → Reps K F (kvs.map Prod.snd) (ds.map Prod.snd) → Reps K F xs es → f ds es = some (z, ds') →
    (∀ v kvs', kvs'.map Prod.fst = ds'.map Prod.fst → Reps K F (kvs'.map Prod.snd) (ds'.map Prod.snd) → Rep K F v z → Q v (upd H p (.dK kvs'))) → r (.ref p) xs H Q
section
variable {K : PySem.W.Frag} {ks : List Sh} {F H : Hp} {ρ : DEnv} {σ : St} {fp : List Addr}
/-- an owned list of a slot, and what stands behind a change of it -/
theorem Rel.ownL {i : Nat} {ds : List D} (r : Rel K ks F H ρ σ fp) (hk : ks[i]? = some (.lst .leaf)) (e : own ρ i = some (.lst ds)) :
    ∃ p vs, σ[i]? = some (some (.ref p)) ∧ F p = none ∧ H p = some (.lst vs) ∧ Reps K F vs ds ∧ ∀ vs' ds', Reps K F vs' ds' → ∃ gp, Rel K ks F (upd H p (.lst vs')) (ρ.set i (some (.lst ds'))) σ gp ∧ Ext F H fp F (upd H p (.lst vs')) gp := by
  obtain ⟨v, f, g, s1, o1, sl, pm⟩ := r.sl.split hk (getE e)
  cases o1 with
  | @lst _ p vs _ fp' nF eH q =>
    obtain ⟨q1, rfl⟩ := q.leafE
    refine ⟨p, vs, s1, nF, eH, q1, fun vs' ds' q' => ?_⟩
    have nd : (p :: g).Nodup := (pm.nodup_iff).mp r.nd
    have pg : p ∉ g := (List.nodup_cons.mp nd).1
    have pin : p ∈ fp := pm.symm.subset (List.mem_cons_self ..)
    have sl2 : RelL K F (upd H p (.lst vs')) ks (ρ.set i none) σ g := sl.frame (fun _ _ x => x) fun a m => ⟨(sl.own a m).1, upd_ne fun z => pg (z ▸ m)⟩
    obtain ⟨gp, r2, p2⟩ := RelL.join (s := .lst .leaf) (f := [p]) (d := .lst ds') (.lst nF upd_same (ORs.ofReps q')) sl2 hk s1
    refine ⟨gp, ⟨sub_updH r.sub nF (by intro _ z; cases z), p2.nodup_iff.mpr nd, r2⟩, ⟨fun a o x n => ?_, fun a m => .inl (pm.symm.subset (p2.subset m))⟩⟩
    · exact ⟨(upd_ne fun (z : a = p) => n (by rw [z]; exact pin)).trans x, rfl⟩
theorem Rel.ownK {i : Nat} {ds : List (Key × D)} (r : Rel K ks F H ρ σ fp) (hk : ks[i]? = some (.dic .leaf)) (e : own ρ i = some (.dK ds)) :
    ∃ p kvs, σ[i]? = some (some (.ref p)) ∧ F p = none ∧ H p = some (.dK kvs) ∧ kvs.map Prod.fst = ds.map Prod.fst ∧ Reps K F (kvs.map Prod.snd) (ds.map Prod.snd) ∧
      ∀ (kvs' : List (Key × V)) (ds' : List (Key × D)), kvs'.map Prod.fst = ds'.map Prod.fst → Reps K F (kvs'.map Prod.snd) (ds'.map Prod.snd) → ∃ gp, Rel K ks F (upd H p (.dK kvs')) (ρ.set i (some (.dK ds'))) σ gp ∧ Ext F H fp F (upd H p (.dK kvs')) gp := by
  obtain ⟨v, f, g, s1, o1, sl, pm⟩ := r.sl.split hk (getE e)
  cases o1 with
  | @dK _ p kvs _ fp' nF eH ek q =>
    obtain ⟨q1, rfl⟩ := q.leafE
    refine ⟨p, kvs, s1, nF, eH, ek, q1, fun kvs' ds' ek' q' => ?_⟩
    have nd : (p :: g).Nodup := (pm.nodup_iff).mp r.nd
    have pg : p ∉ g := (List.nodup_cons.mp nd).1
    have pin : p ∈ fp := pm.symm.subset (List.mem_cons_self ..)
    have sl2 : RelL K F (upd H p (.dK kvs')) ks (ρ.set i none) σ g := sl.frame (fun _ _ x => x) fun a m => ⟨(sl.own a m).1, upd_ne fun z => pg (z ▸ m)⟩
    obtain ⟨gp, r2, p2⟩ := RelL.join (s := .dic .leaf) (f := [p]) (d := .dK ds') (.dK nF upd_same ek' (ORs.ofReps q')) sl2 hk s1
    refine ⟨gp, ⟨sub_updH r.sub nF (by intro _ z; cases z), p2.nodup_iff.mpr nd, r2⟩, ⟨fun a o x n => ?_, fun a m => .inl (pm.symm.subset (p2.subset m))⟩⟩
    · exact ⟨(upd_ne fun (z : a = p) => n (by rw [z]; exact pin)).trans x, rfl⟩
theorem Rel.ownT {i : Nat} {ds : List (List Key × D)} (r : Rel K ks F H ρ σ fp) (hk : ks[i]? = some (.dic .leaf)) (e : own ρ i = some (.dT ds)) :
    ∃ p kvs, σ[i]? = some (some (.ref p)) ∧ F p = none ∧ H p = some (.dT kvs) ∧ kvs.map Prod.fst = ds.map Prod.fst ∧ Reps K F (kvs.map Prod.snd) (ds.map Prod.snd) ∧
      ∀ (kvs' : List (List Key × V)) (ds' : List (List Key × D)), kvs'.map Prod.fst = ds'.map Prod.fst → Reps K F (kvs'.map Prod.snd) (ds'.map Prod.snd) → ∃ gp, Rel K ks F (upd H p (.dT kvs')) (ρ.set i (some (.dT ds'))) σ gp ∧ Ext F H fp F (upd H p (.dT kvs')) gp := by
  obtain ⟨v, f, g, s1, o1, sl, pm⟩ := r.sl.split hk (getE e)
  cases o1 with
  | @dT _ p kvs _ fp' nF eH ek q =>
    obtain ⟨q1, rfl⟩ := q.leafE
    refine ⟨p, kvs, s1, nF, eH, ek, q1, fun kvs' ds' ek' q' => ?_⟩
    have nd : (p :: g).Nodup := (pm.nodup_iff).mp r.nd
    have pg : p ∉ g := (List.nodup_cons.mp nd).1
    have pin : p ∈ fp := pm.symm.subset (List.mem_cons_self ..)
    have sl2 : RelL K F (upd H p (.dT kvs')) ks (ρ.set i none) σ g := sl.frame (fun _ _ x => x) fun a m => ⟨(sl.own a m).1, upd_ne fun z => pg (z ▸ m)⟩
    obtain ⟨gp, r2, p2⟩ := RelL.join (s := .dic .leaf) (f := [p]) (d := .dT ds') (.dT nF upd_same ek' (ORs.ofReps q')) sl2 hk s1
    refine ⟨gp, ⟨sub_updH r.sub nF (by intro _ z; cases z), p2.nodup_iff.mpr nd, r2⟩, ⟨fun a o x n => ?_, fun a m => .inl (pm.symm.subset (p2.subset m))⟩⟩
    · exact ⟨(upd_ne fun (z : a = p) => n (by rw [z]; exact pin)).trans x, rfl⟩
end
/-- x.method(args), x an owned list at slot i -/
def mMtL (i : Nat) (f : List D → List D → Option (D × List D)) (args : MA) : ME := fun ρ => match own ρ i with
  | some (.lst _) => (args ρ).bind fun es ρ1 => (match own ρ1 i with
    | some (.lst ds) => (match f ds es with | some (z, ds') => .ok z (ρ1.set i (some (.lst ds'))) | none => .no)
    | _ => .no)
  | _ => .no
section
variable {X : Cx} {ks : List Sh} {W : WX} {e : Expr} {es : List Expr} {i : Nat} {x name : Str} {id : String} {p apos cpos : Pos} {r : V → List V → Hp → VK → Prop} {f : List D → List D → Option (D × List D)}
theorem snd_mtL {b : Bd} {t : TA} {args : MA} (hk : b.ks[i]? = some (.lst .leaf)) (hr : MtL b.K r f) (ha : SndA b t args) : SndE b .leaf (tBM b.K "list" r (tVar i) t) (mMtL i f args) := by
  intro ρ σ F H fp Q r0 hok
  unfold mMtL at hok
  split at hok
  · rename_i ds0 e0
    obtain ⟨p, vs, s1, nF, eH, q1, _⟩ := r0.ownL hk e0
    refine ⟨.ref p, s1, .inl ⟨rfl, _, .of eH⟩, ?_⟩
    refine ha.go r0 (Ok := OkE b .leaf F H fp σ Q) hok (fun z => z) (fun _ _ z => z) fun es ρ1 xs F1 H1 fp1 h1 r1 x1 p1 => ?_
    split at h1
    · rename_i ds e1
      split at h1
      · rename_i z ds' ef
        obtain ⟨p', vs', s2, nF', eH', q2, step⟩ := r1.ownL hk e1
        rw [s1] at s2
        cases s2
        refine hr F1 H1 p vs' ds xs es z ds' Q r1.sub nF' eH' q2 p1 ef fun v ws q3 rv => ?_
        obtain ⟨gp, r2, x2⟩ := step ws ds' q3
        exact (h1.ext x1) v F1 _ gp [] r2 (by rw [List.append_nil]; exact r2.nd) (by rw [List.append_nil]; exact x2) (.leaf rv)
      · exact (show False from h1).elim
    · exact (show False from h1).elim
  · exact (show False from hok).elim
theorem ev_mtL {t : TA} {args : MA} (i : Nat) (slot : Slot "list" name id) (hty : typeOf (.builtin id) = pure (.type "method_descriptor")) (rule : MtM X id r) (hr : MtL X.K r f) (ha : EA X ks W (e :: es) t args) (hk : ks[i]? = some (.lst .leaf) := by rfl) (hN : X.N[i]? = some x := by rfl)
    (hv : Vis X.env.scope x := by first | exact Or.inl rfl | exact Or.inr (Or.inl rfl) | exact Or.inr (Or.inr rfl)) (hd : (x == ("__debug__" : Str)) = false := by decide) (hcd : (x == ("__classdict__" : Str)) = false := by decide)
    (hbase : attributeBase (.Name x p) name X.env (eval (.Name x p) X.env) = eval (.Name x p) X.env := by rfl)
    (hfew : ((backTo cpos (starEach (e :: es) X.env)).all (fun x => !x.1) && (backToKw cpos (keywordEach [] X.env)).all (fun x => x.1.isSome)
      && decide ((e :: es).length + ([] : List Keyword).length + (if ([] : List Keyword).isEmpty then 0 else 1) < 30)) = true := by rfl)
    (hline : (apos.endLine == cpos.line) = true := by rfl) (hs : starEach (e :: es) X.env = (false, eval e X.env) :: starEach es X.env := by rfl) (hplain : (backTo cpos (starEach es X.env)).any (·.1) = false := by rfl) :
    EV X ks W (.Call (.Attribute (.Name x p) name apos) (e :: es) [] cpos) .leaf (tBM X.K "list" r (tVar i) t) (mMtL i f args) :=
  ⟨pe_bm PySem.F.plainAttrs_list slot hty rule (pe_var hN hv hd hcd) ha.pe hbase hfew hline hs hplain, snd_mtL (b := bd X ks W) hk hr ha.sd⟩
theorem ev_mtL0 (i : Nat) (slot : Slot "list" name id) (hty : typeOf (.builtin id) = pure (.type "method_descriptor")) (rule : MtM X id r) (hr : MtL X.K r f) (hk : ks[i]? = some (.lst .leaf) := by rfl) (hN : X.N[i]? = some x := by rfl)
    (hv : Vis X.env.scope x := by first | exact Or.inl rfl | exact Or.inr (Or.inl rfl) | exact Or.inr (Or.inr rfl)) (hd : (x == ("__debug__" : Str)) = false := by decide) (hcd : (x == ("__classdict__" : Str)) = false := by decide)
    (hbase : attributeBase (.Name x p) name X.env (eval (.Name x p) X.env) = eval (.Name x p) X.env := by rfl) (hline : (apos.endLine == cpos.line) = true := by rfl) :
    EV X ks W (.Call (.Attribute (.Name x p) name apos) [] [] cpos) .leaf (tBM0 X.K "list" r (tVar i)) (mMtL i f mNil) :=
  ⟨pe_bm0 PySem.F.plainAttrs_list slot hty rule (pe_var hN hv hd hcd) hbase hline, snd_mtL (b := bd X ks W) (t := tNil) hk hr (fun ρ σ F H fp Q r hok => hok [] F H fp r .refl .nil)⟩
end
section
variable {K : PySem.W.Frag}
def appendD : List D → List D → Option (D × List D)
  | ds, [d] => if ds.length < 16777216 then some (.non, ds ++ [d]) else none
  | _, _ => none
theorem m_append : MtL K rAppend appendD := by
  intro F H p vs ds xs es z ds' Q sm nF eH q1 q2 hf k
  unfold appendD at hf
  split at hf
  · rename_i d
    cases q2 with
    | cons h t =>
      cases t
      split at hf
      · rename_i c
        cases hf
        exact ⟨p, vs, _, rfl, rfl, eH, by rw [q1.length, sizeLine_eq]; exact c, k .non _ (q1.append (.cons h .nil)) .non⟩
      · cases hf
  · cases hf
def extendD : List D → List D → Option (D × List D)
  | ds, [.lst es] => if ds.length + es.length ≤ 16777216 then some (.non, ds ++ es) else none
  | _, _ => none
theorem m_extend : MtL K rExtend extendD := by
  intro F H p vs ds xs es z ds' Q sm nF eH q1 q2 hf k
  unfold extendD at hf
  split at hf
  · cases q2 with
    | cons h t =>
      cases t
      split at hf
      · rename_i c
        cases hf
        cases h with
        | lst e r => exact ⟨p, _, vs, _, rfl, rfl, eH, sm _ _ e, by rw [q1.length, r.length, sizeLine_eq]; exact c, k .non _ (q1.append r) .non⟩
      · cases hf
  · cases hf
def popD : List D → List D → Option (D × List D)
  | ds, [] => (ds[ds.length - 1]?).bind fun d => some (d, ds.dropLast)
  | ds, [.int i] => if -(2 ^ 63) ≤ i ∧ i < 2 ^ 63 then (seqIndex? i ds.length).bind fun k => (ds[k]?).bind fun d => some (d, ds.eraseIdx k) else none
  | _, _ => none
theorem mt_popU {X : Cx} : MtM X "list.pop" (fun x vs H Q => rPop x vs H Q ∨ rPopAt x vs H Q) := by
  intro pins s σ H x xs v us Q I rx rs q
  rcases q with q | q
  · exact mt_pop pins s σ H x xs v us Q I rx rs q
  · exact mt_popAt pins s σ H x xs v us Q I rx rs q
theorem m_pop : MtL K (fun x vs H Q => rPop x vs H Q ∨ rPopAt x vs H Q) popD := by
  intro F H p vs ds xs es z ds' Q sm nF eH q1 q2 hf k
  unfold popD at hf
  split at hf
  · cases q2
    cases e : ds[ds.length - 1]? with
    | none => rw [e] at hf; cases hf
    | some d =>
      rw [e] at hf
      cases hf
      obtain ⟨w, w1, w2⟩ := q1.get e
      exact .inl ⟨p, vs, w, rfl, rfl, eH, by rw [q1.length]; exact w1, k w _ q1.dropLast w2⟩
  · rename_i i
    cases q2 with
    | cons h t =>
      cases t
      cases h
      split at hf
      · rename_i c
        cases e : seqIndex? i ds.length with
        | none => rw [e] at hf; cases hf
        | some j =>
          cases e2 : ds[j]? with
          | none => rw [e, Option.bind_some, e2] at hf; cases hf
          | some d =>
            rw [e, Option.bind_some, e2] at hf
            cases hf
            obtain ⟨w, w1, w2⟩ := q1.get e2
            exact .inr ⟨p, vs, i, j, w, rfl, rfl, eH, c.1, c.2, by rw [q1.length]; exact e, w1, k w _ (q1.eraseIdx j) w2⟩
      · cases hf
  · cases hf
def insertD : List D → List D → Option (D × List D)
  | ds, [.int i, d] => if 0 ≤ i ∧ i < 2 ^ 62 ∧ ds.length < 16777216 then some (.non, ds.take i.toNat ++ [d] ++ ds.drop i.toNat) else none
  | _, _ => none
theorem m_insert : MtL K (fun x vs H Q => ∃ (l : Addr) (xs : List V) (i : Int) (y : V), x = .ref l ∧ vs = [.int i, y] ∧ H l = some (.lst xs) ∧ xs.length < sizeLine ∧ 0 ≤ i ∧ i < 2 ^ 63 ∧ Q .non (upd H l (.lst (xs.take i.toNat ++ [y] ++ xs.drop i.toNat)))) insertD := by
  intro F H p vs ds xs es z ds' Q sm nF eH q1 q2 hf k
  unfold insertD at hf
  split at hf
  · rename_i i d
    cases q2 with
    | cons h t =>
      cases h
      cases t with
      | cons h t =>
        cases t
        split at hf
        · rename_i c
          cases hf
          exact ⟨p, vs, i, _, rfl, rfl, eH, by rw [q1.length, sizeLine_eq]; exact c.2.2, c.1, by omega, k .non _ (((q1.take _).append (.cons h .nil)).append (q1.drop _)) .non⟩
        · cases hf
  · cases hf
def reverseD : List D → List D → Option (D × List D)
  | ds, [] => some (.non, ds.reverse)
  | _, _ => none
theorem m_reverse : MtL K rReverse reverseD := by
  intro F H p vs ds xs es z ds' Q sm nF eH q1 q2 hf k
  unfold reverseD at hf
  split at hf
  · cases q2
    cases hf
    exact ⟨p, vs, rfl, rfl, eH, k .non _ q1.reverse .non⟩
  · cases hf
def clearD : List D → List D → Option (D × List D)
  | _, [] => some (.non, [])
  | _, _ => none
theorem m_clear : MtL K rClear clearD := by
  intro F H p vs ds xs es z ds' Q sm nF eH q1 q2 hf k
  unfold clearD at hf
  split at hf
  · cases q2
    cases hf
    exact ⟨p, vs, rfl, rfl, eH, k .non [] .nil .non⟩
  · cases hf
end

/-! ### d[k] = v, xs[i] = v -/
def putD (d k v : D) : Option D := match d with
  | .dK kvs => if kvs.length < 16777216 then (keyK k).bind fun q => some (.dK (put kvs q v)) else none
  | .dT kvs => if kvs.length < 16777216 then (keyT k).bind fun q => some (.dT (put kvs q v)) else none
  | _ => none
def mPut (i : Nat) (mk mv : ME) : MS := fun ρ => (mv ρ).bind fun v ρ1 => (R.of (own ρ1 i) ρ1).bind fun _ _ => (mk ρ1).bind fun k ρ2 => (R.of ((own ρ2 i).bind fun d => putD d k v) ρ2).bind fun d' ρ3 => .ok .nx (ρ3.set i (some d'))
section
variable {X : Cx} {ks : List Sh} {W : WX} {rsh : Sh} {fx : Nat} {e c value : Expr} {i : Nat} {x : Str} {p pos pos' : Pos} {te tc tv : TE} {me mc mv : ME}
theorem sv_dput (i : Nat) (hu : X.A.units + 1 < cLine) (hc : EV X ks W c .leaf tc mc) (hv : EV X ks W value .leaf tv mv) (hk : ks[i]? = some (.dic .leaf) := by rfl) (hN : X.N[i]? = some x := by rfl)
    (hvi : Vis X.env.scope x := by first | exact Or.inl rfl | exact Or.inr (Or.inl rfl) | exact Or.inr (Or.inr rfl)) (hd : (x == ("__debug__" : Str)) = false := by decide) (hcd : (x == ("__classdict__" : Str)) = false := by decide)
    (hs : swapsWith value (some (.Subscript (.Name x p) c pos')) pos.line X.env = pure false := by rfl) : SV X ks W rsh fx (.Assign [.Subscript (.Name x p) c pos'] value pos) (sDPut (tVar i) tc tv) (mPut i mc mv) := by
  refine ⟨ps_dput hu (pe_var hN hvi hd hcd) hc.pe hv.pe hs, fun ρ σ F H fp D r hok => ?_⟩
  unfold mPut at hok
  refine hv.sd.go r (Ok := OkS (bd X ks W) rsh fx F H fp σ D) hok (fun z => z) (fun _ _ z => z.x) fun w ρ1 v F1 H1 fp1 h1 r1 x1 p1 => ?_
  cases e1 : own ρ1 i with
  | none => rw [e1] at h1; exact (show False from h1).elim
  | some d1 =>
    rw [e1] at h1
    obtain ⟨v0, f0, g0, s1, o1, _, _⟩ := r1.sl.split hk (getE e1)
    refine ⟨v0, s1, ?_⟩
    refine hc.sd.go r1 (Ok := OkS (bd X ks W) rsh fx F1 H1 fp1 σ D) (h1.ext x1 rfl) (fun z => z) (fun _ _ z => z.x) fun k ρ2 u F2 H2 fp2 h2 r2 x2 p2 => ?_
    have p1' := p1.mono (r1.same x2)
    cases e2 : own ρ2 i with
    | none => rw [e2] at h2; exact (show False from h2).elim
    | some d2 =>
      cases e3 : putD d2 k w with
      | none => rw [e2, Option.bind_some, e3] at h2; exact (show False from h2).elim
      | some d3 =>
        rw [e2, Option.bind_some, e3] at h2
        unfold putD at e3
        split at e3
        · rename_i kvs
          split at e3
          · rename_i cl
            cases e4 : keyK k with
            | none => rw [e4] at e3; cases e3
            | some q =>
              rw [e4] at e3
              cases e3
              obtain ⟨a, kv, s2, nF, eH, ek, rk, step⟩ := r2.ownK hk e2
              rw [s1] at s2
              cases s2
              obtain ⟨gp, r3, x3⟩ := step _ _ (put_keys q v w ek) (put_reps q p1' ek rk)
              refine ⟨a, _, rfl, ?_, (h2.ext x2 rfl) σ F2 _ gp r3 x3 rfl⟩
              rw [keyKE (F := F2) (H := F2) (.rep p2) e4]
              exact DPut.k eH (by rw [put_len q v w ek, sizeLine_eq]; exact cl)
          · cases e3
        · rename_i kvs
          split at e3
          · rename_i cl
            cases e4 : keyT k with
            | none => rw [e4] at e3; cases e3
            | some q =>
              rw [e4] at e3
              cases e3
              obtain ⟨a, kv, s2, nF, eH, ek, rk, step⟩ := r2.ownT hk e2
              rw [s1] at s2
              cases s2
              obtain ⟨gp, r3, x3⟩ := step _ _ (put_keys q v w ek) (put_reps q p1' ek rk)
              obtain ⟨bb, b1, b2⟩ := keyTE r2.sub (.rep p2) e4
              refine ⟨a, _, rfl, ?_, (h2.ext x2 rfl) σ F2 _ gp r3 x3 rfl⟩
              rw [b1]
              exact DPut.t eH b2 (by rw [put_len q v w ek, sizeLine_eq]; exact cl)
          · cases e3
        · cases e3
end
end VL
/-! V8: what is walked, targets, for, while, comprehensions. -/
namespace VL
open PySem PySem.Spec L2

/-- the iterator J yields the data ds, whatever F grows to -/
def Walks (K : PySem.W.Frag) (J : It) (ds : List D) (F0 : Hp) : Prop :=
  ∀ i F H, Same F0 F → Sub F H → (∀ d, ds[i]? = some d → J.go i H ∧ ∀ x H', J.yld i H x H' → ∃ F', Alc F H F' H' ∧ Rep K F' x d) ∧ (ds.length ≤ i → J.stop i H)
structure IV (X : Cx) (ks : List Sh) (W : WX) (tg e : Expr) (wi : TI) (m : MA) : Prop where
  pe : PI X tg e wi
  sd : ∀ ρ σ F H fp (Q : It → Hp → Prop) {α : Type} (Ok : R α → Prop) (f : List D → DEnv → R α), Rel X.K ks F H ρ σ fp → Ok ((m ρ).bind f) → ¬ Ok .no → (∀ e ρ1, Ok (.ex e ρ1) → OkX (bd X ks W) F H fp σ e ρ1) →
    (∀ ds ρ1 J F1 H1 fp1, Ok (f ds ρ1) → Rel X.K ks F1 H1 ρ1 σ fp1 → Ext F H fp F1 H1 fp1 → Walks X.K J ds F1 → Q J H1) → wi σ H Q
theorem walks_list {K : PySem.W.Frag} {F0 : Hp} {a : Addr} {vs : List V} {ds : List D} (e : F0 a = some (.lst vs)) (r : Reps K F0 vs ds) : Walks K (Itl K a) ds F0 := by
  intro i F H s1 s2
  have q : SqL K H a vs := .of (s2 _ _ (s1 _ _ e))
  have r' := r.mono s1
  refine ⟨fun d hd => ?_, fun hl => ⟨vs, q, by rw [r.length]; exact hl⟩⟩
  obtain ⟨v, v1, v2⟩ := r'.get hd
  refine ⟨⟨vs, v, q, v1⟩, fun x H' ⟨h1, h2⟩ => ?_⟩
  subst h1
  have := (h2 vs q).symm.trans v1
  cases this
  exact ⟨F, .refl s2, v2⟩
theorem same_sqT {K : PySem.W.Frag} {F F' : Hp} {a : Addr} {xs : List V} (s : Same F F') (h : SqT K F a xs) : SqT K F' a xs := by
  rcases h with (h | ⟨o, h⟩) | h
  · exact .inl (.inl (s _ _ h))
  · exact .inl (.inr ⟨o, s _ _ h⟩)
  · exact .inr h
theorem walks_tup {K : PySem.W.Frag} {F0 : Hp} {a : Addr} {vs : List V} {ds : List D} (e : SqT K F0 a vs) (r : Reps K F0 vs ds) : Walks K (Itt K a) ds F0 := by
  intro i F H s1 s2
  have q : SqT K H a vs := same_sqT s2.sm (same_sqT s1 e)
  have r' := r.mono s1
  refine ⟨fun d hd => ?_, fun hl => ⟨vs, q, by rw [r.length]; exact hl⟩⟩
  obtain ⟨v, v1, v2⟩ := r'.get hd
  refine ⟨⟨vs, v, q, v1⟩, fun x H' ⟨h1, h2⟩ => ?_⟩
  subst h1
  have := (h2 vs q).symm.trans v1
  cases this
  exact ⟨F, .refl s2, v2⟩
def rangeD (lo : Int) (n : Nat) : List D := (List.range n).map fun i => .int (lo + (i : Nat))
theorem walks_rng {K : PySem.W.Frag} {F0 : Hp} {lo : Int} {n : Nat} : Walks K (Itr lo n) (rangeD lo n) F0 := by
  intro i F H s1 s2
  have hl : (rangeD lo n).length = n := by simp [rangeD]
  refine ⟨fun d hd => ?_, fun h => by rw [hl] at h; exact h⟩
  have hi : i < n := by
    have := (List.getElem?_eq_some_iff.mp hd).1
    rw [hl] at this; exact this
  have e : d = .int (lo + (i : Nat)) := by
    simp [rangeD, hi] at hd
    exact hd.symm
  subst e
  exact ⟨hi, fun x H' ⟨h1, h2⟩ => by subst h1; subst h2; exact ⟨F, .refl s2, .int _⟩⟩
def signs (x : Str) : List D := x.cps.toList.map fun c => .str ⟨#[c]⟩
theorem walks_str {K : PySem.W.Frag} {F0 : Hp} {x : Str} (ha : asc x = true) : Walks K (Its x) (signs x) F0 := by
  intro i F H s1 s2
  have hl : (signs x).length = x.cps.size := by simp [signs]
  refine ⟨fun d hd => ?_, fun h => by rw [hl] at h; exact h⟩
  have hi : i < x.cps.size := by
    have := (List.getElem?_eq_some_iff.mp hd).1
    rw [hl] at this; exact this
  refine ⟨hi, fun v H' ⟨h1, c, h2, h3⟩ => ?_⟩
  subst h1 h3
  have h2' : x.cps.toList[i]? = some c := by rw [Array.getElem?_toList]; exact h2
  have e : d = .str ⟨#[c]⟩ := by
    unfold signs at hd
    rw [List.getElem?_map, h2'] at hd
    exact (Option.some.inj hd).symm
  subst e
  exact ⟨F, .refl s2, .str _ (asc_one ha (List.mem_of_getElem? h2'))⟩
section
variable {X : Cx} {ks : List Sh} {W : WX} {tg e a c : Expr} {te tc : TE} {me mc : ME} {p pos : Pos}
def asL : D → DEnv → R (List D)
  | .lst ds, ρ => .ok ds ρ
  | _, _ => .no
def asT : D → DEnv → R (List D)
  | .tup ds, ρ => .ok ds ρ
  | .key ks, ρ => .ok (ks.map keyD) ρ
  | _, _ => .no
def asS : D → DEnv → R (List D)
  | .str x, ρ => .ok (signs x) ρ
  | _, _ => .no
theorem iv_list (h : EV X ks W e .leaf te me) : IV X ks W tg e (iList X.K te) (fun ρ => (me ρ).bind asL) := by
  refine ⟨pi_list h.pe, fun ρ σ F H fp Q α Ok f r hok hn hx k => ?_⟩
  rw [bind_assoc] at hok
  refine h.sd.go r (Ok := Ok) hok hn hx fun d ρ1 v F1 H1 fp1 h1 r1 x1 p1 => ?_
  cases d with
  | lst ds =>
    cases p1 with
    | lst q1 q2 => exact ⟨_, rfl, ⟨_, .of (r1.sub _ _ q1)⟩, k ds ρ1 _ F1 H1 fp1 h1 r1 x1 (walks_list q1 q2)⟩
  | _ => exact (hn h1).elim
theorem iv_tup (h : EV X ks W e .leaf te me) : IV X ks W tg e (iTup X.K te) (fun ρ => (me ρ).bind asT) := by
  refine ⟨pi_tup h.pe, fun ρ σ F H fp Q α Ok f r hok hn hx k => ?_⟩
  rw [bind_assoc] at hok
  refine h.sd.go r (Ok := Ok) hok hn hx fun d ρ1 v F1 H1 fp1 h1 r1 x1 p1 => ?_
  cases d with
  | tup ds =>
    cases p1 with
    | tup q1 q2 => exact ⟨_, rfl, ⟨_, (q1.mono r1.sub.sm).sq X.K⟩, k ds ρ1 _ F1 H1 fp1 h1 r1 x1 (walks_tup (q1.sq X.K) q2)⟩
  | key ks =>
    cases p1 with
    | key q1 q2 => exact ⟨_, rfl, ⟨_, .of (r1.sub _ _ q1)⟩, k _ ρ1 _ F1 H1 fp1 h1 r1 x1 (walks_tup (.of q1) (reps_keys ks q2))⟩
  | _ => exact (hn h1).elim
theorem iv_str (h : EV X ks W e .leaf te me) : IV X ks W tg e (iStr te) (fun ρ => (me ρ).bind asS) := by
  refine ⟨pi_str h.pe, fun ρ σ F H fp Q α Ok f r hok hn hx k => ?_⟩
  rw [bind_assoc] at hok
  refine h.sd.go r (Ok := Ok) hok hn hx fun d ρ1 v F1 H1 fp1 h1 r1 x1 p1 => ?_
  cases d with
  | str x =>
    cases p1 with
    | str _ q => exact ⟨x, rfl, k _ ρ1 _ F1 H1 fp1 h1 r1 x1 (walks_str q)⟩
  | _ => exact (hn h1).elim
def mRng1 : List D → DEnv → R (List D)
  | [.int j], ρ => if -1000000 ≤ j ∧ j ≤ 1000000 then .ok (rangeD 0 j.toNat) ρ else .no
  | _, _ => .no
def mRng2 : List D → DEnv → R (List D)
  | [.int i, .int j], ρ => if -1000000 ≤ i ∧ i ≤ 1000000 ∧ -1000000 ≤ j ∧ j ≤ 1000000 then .ok (rangeD i (j - i).toNat) ρ else .no
  | _, _ => .no
theorem iv_rng1 {t : TA} {ma : MA} (ha : EA X ks W [a] t ma) (hm : X.mg "range" = none) (hg : Gl X "range" := by rfl) (hs : starEach [a] X.env = [(false, eval a X.env)] := by rfl) : IV X ks W tg (.Call (.Name "range" p) [a] [] pos) (iRng1 t) (fun ρ => (ma ρ).bind mRng1) := by
  refine ⟨pi_range1 hg hm ha.pe hs, fun ρ σ F H fp Q α Ok f r hok hn hx k => ?_⟩
  rw [bind_assoc] at hok
  refine ha.sd.go r (Ok := Ok) hok hn hx fun ds ρ1 vs F1 H1 fp1 h1 r1 x1 p1 => ?_
  unfold mRng1 at h1
  split at h1
  · rename_i j
    cases p1 with
    | cons q t =>
      cases q
      cases t
      split at h1
      · exact ⟨j, rfl, by omega, by omega, k _ ρ1 _ F1 H1 fp1 h1 r1 x1 walks_rng⟩
      · exact (hn h1).elim
  · exact (hn h1).elim
theorem iv_rng2 {t : TA} {ma : MA} (ha : EA X ks W [a, c] t ma) (hm : X.mg "range" = none) (hg : Gl X "range" := by rfl) (hs : starEach [a, c] X.env = [(false, eval a X.env), (false, eval c X.env)] := by rfl) (hs2 : starEach [c] X.env = [(false, eval c X.env)] := by rfl) : IV X ks W tg (.Call (.Name "range" p) [a, c] [] pos) (iRng2 t) (fun ρ => (ma ρ).bind mRng2) := by
  refine ⟨pi_range2 hg hm ha.pe hs hs2, fun ρ σ F H fp Q α Ok f r hok hn hx k => ?_⟩
  rw [bind_assoc] at hok
  refine ha.sd.go r (Ok := Ok) hok hn hx fun ds ρ1 vs F1 H1 fp1 h1 r1 x1 p1 => ?_
  unfold mRng2 at h1
  split at h1
  · rename_i i j
    cases p1 with
    | cons q t =>
      cases q
      cases t with
      | cons q t =>
        cases q
        cases t
        split at h1
        · exact ⟨i, j, rfl, ⟨by omega, by omega, by omega, by omega⟩, k _ ρ1 _ F1 H1 fp1 h1 r1 x1 walks_rng⟩
        · exact (hn h1).elim
  · exact (hn h1).elim
end

/-! ### targets -/
/-- what a store leaves of the slots -/
structure TRel (T : St → St → Prop) : Prop where
  rfl' : ∀ σ, T σ σ
  tr : ∀ a b c, T a b → T b c → T a c
def Tk (fx : Nat) : St → St → Prop := fun σ' σ => σ'.take fx = σ.take fx
theorem tk_rel (fx : Nat) : TRel (Tk fx) := ⟨fun _ => rfl, fun _ _ _ h k => Eq.trans h k⟩
theorem tk_set {fx i : Nat} (h : fx ≤ i) (σ : St) (x : Option V) : Tk fx (σ.set i x) σ := take_set h
structure GV (X : Cx) (ks : List Sh) (T : St → St → Prop) (tg : Expr) (g : TG) (m : D → DEnv → Option DEnv) : Prop where
  pe : PG X tg g
  sd : ∀ d v ρ σ F H fp ρ' (Q : St → Hp → Prop), Rel X.K ks F H ρ σ fp → Rep X.K F v d → m d ρ = some ρ' → (∀ σ' gp, Rel X.K ks F H ρ' σ' gp → (∀ y ∈ gp, y ∈ fp) → T σ' σ → Q σ' H) → g v σ H Q
structure GVs (X : Cx) (ks : List Sh) (T : St → St → Prop) (ts : List Expr) (g : TGs) (m : List D → DEnv → Option DEnv) : Prop where
  pe : PGs X ts g
  sd : ∀ ds vs ρ σ F H fp ρ' (Q : St → Hp → Prop), Rel X.K ks F H ρ σ fp → Reps X.K F vs ds → m ds ρ = some ρ' → (∀ σ' gp, Rel X.K ks F H ρ' σ' gp → (∀ y ∈ gp, y ∈ fp) → T σ' σ → Q σ' H) → g vs σ H Q
def kName (i : Nat) : D → DEnv → Option DEnv := fun d ρ => some (ρ.set i (some d))
def kNil : List D → DEnv → Option DEnv
  | [], ρ => some ρ
  | _, _ => none
def kCons (m : D → DEnv → Option DEnv) (n : List D → DEnv → Option DEnv) : List D → DEnv → Option DEnv
  | d :: ds, ρ => (m d ρ).bind fun ρ1 => n ds ρ1
  | [], _ => none
def kTup' (k : Nat) (n : List D → DEnv → Option DEnv) : D → DEnv → Option DEnv
  | .tup ds, ρ => if ds.length = k then n ds ρ else none
  | .key ks, ρ => if ks.length = k then n (ks.map keyD) ρ else none
  | _, _ => none
section
variable {X : Cx} {ks : List Sh} {T : St → St → Prop} {tg : Expr} {ts : List Expr} {g : TG} {gs : TGs} {pos : Pos}
theorem gv_name {i : Nat} {x : Str} (hN : X.N.Nodup) (hi : X.N[i]? = some x) (hx : Loc X.env.scope x) (hk : ks[i]? = some .leaf) (hf : ∀ σ x, T (σ.set i x) σ) (hff : X.fn x = true ∨ X.env.scope.names.lookup x = some .local := by first | exact .inl rfl | exact .inr rfl | assumption) : GV X ks T (.Name x pos) (gName i) (kName i) := by
  refine ⟨pg_name hN hi hx hff, fun d v ρ σ F H fp ρ' Q r rp e k => ?_⟩
  cases e
  obtain ⟨gp, r2, sb⟩ := r.store (fv := []) (.leaf rp) (by rw [List.append_nil]; exact r.nd) hk
  exact k _ gp r2 (fun y m => by have := sb y m; rwa [List.append_nil] at this) (hf _ _)
theorem gvs_nil (hT : TRel T) : GVs X ks T [] gNil kNil := by
  refine ⟨pgs_nil, fun ds vs ρ σ F H fp ρ' Q r rp e k => ?_⟩
  cases rp with
  | nil => cases e; exact ⟨rfl, k σ fp r (fun _ m => m) (hT.rfl' σ)⟩
  | cons _ _ => cases e
theorem gvs_cons (hT : TRel T) {m : D → DEnv → Option DEnv} {n : List D → DEnv → Option DEnv} (h1 : GV X ks T tg g m) (h2 : GVs X ks T ts gs n) (hs : (assignEach (tg :: ts) X.env).map (·.2) = assign tg X.env :: (assignEach ts X.env).map (·.2) := by rfl) : GVs X ks T (tg :: ts) (gCons g gs) (kCons m n) := by
  refine ⟨pgs_cons h1.pe h2.pe hs, fun ds vs ρ σ F H fp ρ' Q r rp e k => ?_⟩
  cases rp with
  | nil => cases e
  | @cons v d vs' ds' p t =>
    have e' : (m d ρ).bind (fun ρ1 => n ds' ρ1) = some ρ' := e
    cases e1 : m d ρ with
    | none => rw [e1] at e'; cases e'
    | some ρ1 =>
      rw [e1] at e'
      refine ⟨v, vs', rfl, h1.sd d v ρ σ F H fp ρ1 _ r p e1 fun σ1 g1 r1 s1 q1 => ?_⟩
      exact h2.sd ds' vs' ρ1 σ1 F H g1 ρ' Q r1 t e' fun σ2 g2 r2 s2 q2 => k σ2 g2 r2 (fun y m => s1 y (s2 y m)) (hT.tr _ _ _ q2 q1)
theorem gv_tup {n : Nat} {k : Nat} {m : List D → DEnv → Option DEnv} (hc : X.calm = true) (h : GVs X ks T ts gs m) (hn : (assignEach ts X.env).length = n := by rfl) (hst : (assignEach ts X.env).findIdx? (·.1) = none := by rfl) : GV X ks T (.Tuple ts k pos) (gTup X.K n gs) (kTup' n m) := by
  refine ⟨pg_tup hc h.pe hn hst, fun d v ρ σ F H fp ρ' Q r rp e kk => ?_⟩
  cases d with
  | tup ds =>
    cases rp with
    | tup q1 q2 =>
      have e' : (if ds.length = n then m ds ρ else none) = some ρ' := e
      by_cases c : ds.length = n
      · rw [if_pos c] at e'
        exact ⟨_, _, rfl, (q1.mono r.sub.sm).sq X.K, by rw [q2.length]; exact c, h.sd ds _ ρ σ F H fp ρ' Q r q2 e' kk⟩
      · rw [if_neg c] at e'; cases e'
  | key ys =>
    cases rp with
    | key q1 q2 =>
      have e' : (if ys.length = n then m (ys.map keyD) ρ else none) = some ρ' := e
      by_cases c : ys.length = n
      · rw [if_pos c] at e'
        exact ⟨_, _, rfl, .of (r.sub _ _ q1), by rw [List.length_map]; exact c, h.sd _ _ ρ σ F H fp ρ' Q r (reps_keys ys q2) e' kk⟩
      · rw [if_neg c] at e'; cases e'
  | _ => cases e
end
/-! ### target = value -/
def mAsg (k : D → DEnv → Option DEnv) (m : ME) : MS := fun ρ => (m ρ).bind fun d ρ1 => match k d ρ1 with | some ρ2 => .ok .nx ρ2 | none => .no
section
variable {X : Cx} {ks : List Sh} {W : WX} {rsh : Sh} {fx : Nat} {tg e : Expr} {te : TE} {me : ME} {g : TG} {pos : Pos} {k : D → DEnv → Option DEnv}
theorem sv_asg (h : EV X ks W e .leaf te me) (hg : GV X ks (Tk fx) tg g k) (hs : swapsWithSole [tg] e pos.line X.env = pure false := by rfl) (hw : swappedStores [tg] e X.env = pure none := by rfl)
    (h1 : (assignEach [tg] X.env).map (·.2) = [assign tg X.env] := by rfl) : SV X ks W rsh fx (.Assign [tg] e pos) (tAsg te g) (mAsg k me) := by
  refine ⟨ps_asg h.pe hg.pe hs hw h1, fun ρ σ F H fp D r hok => ?_⟩
  refine h.sd.go r (Ok := OkS (bd X ks W) rsh fx F H fp σ D) hok (fun z => z) (fun _ _ z => z.x) fun d ρ1 v F1 H1 fp1 q1 r1 x1 p1 => ?_
  cases e1 : k d ρ1 with
  | none => rw [e1] at q1; exact (show False from q1).elim
  | some ρ2 =>
    rw [e1] at q1
    exact hg.sd d v ρ1 σ F1 H1 fp1 ρ2 _ r1 p1 e1 fun σ2 g2 r2 s2 q2 => q1 σ2 F1 H1 g2 r2 (x1.sub s2) q2
end

/-! ### for -/
def mFor (k : D → DEnv → Option DEnv) (body : MS) : List D → MS
  | [], ρ => .ok .nx ρ
  | d :: ds, ρ => match k d ρ with
    | none => .no
    | some ρ1 => (body ρ1).bind fun f ρ2 => match f with | .nx => mFor k body ds ρ2 | .rt z => .ok (.rt z) ρ2
section
variable {X : Cx} {ks : List Sh} {W : WX} {rsh : Sh} {fx : Nat} {tg iter c : Expr} {body : List Stmt} {wi : TI} {g : TG} {tb : TS} {ma : MA} {k : D → DEnv → Option DEnv} {mb : MS} {pos : Pos}
theorem sv_for (hp : PassesOwn (model X.prog X.w) X.A X.env X.xe) (hc : X.calm = true) (hi : IV X ks W tg iter wi ma) (hg : GV X ks (Tk fx) tg g k) (hb : SVs X ks W rsh fx body tb mb)
    (hs : ∀ x, foldedSetIterable iter X.env x = pure x := by intro _; rfl) : SV X ks W rsh fx (.For tg iter body [] pos) (tFor wi g tb) (fun ρ => (ma ρ).bind fun ds ρ1 => mFor k mb ds ρ1) := by
  refine ⟨ps_for hp hc hi.pe hg.pe hb.pe hs, fun ρ σ F H fp D r hok => ?_⟩
  refine hi.sd ρ σ F H fp _ (OkS (bd X ks W) rsh fx F H fp σ D) _ r hok (fun z => z) (fun _ _ z => z.x) fun ds ρ1 J F1 H1 fp1 h1 r1 x1 wk => ?_
  let Wv : Nat → Nat → St → Hp → Prop := fun i m σ' H' => m = ds.length - i ∧ i ≤ ds.length ∧ ∃ ρ' F' gp, Rel X.K ks F' H' ρ' σ' gp ∧ Same F1 F' ∧ OkS (bd X ks W) rsh fx F' H' gp σ' D (mFor k mb (ds.drop i) ρ')
  refine ⟨Wv, ⟨ds.length, by simp, Nat.zero_le _, ρ1, F1, fp1, r1, fun _ _ z => z, by rw [List.drop_zero]; exact h1.ext x1 rfl⟩, ?_⟩
  rintro i m σ' H' ⟨hm, hi', ρ', F', gp, r', s', ok'⟩
  obtain ⟨w1, w2⟩ := wk i F' H' s' r'.sub
  by_cases hl : i < ds.length
  · refine .inr ?_
    have ed : ds[i]? = some ds[i] := List.getElem?_eq_getElem hl
    have edr : ds.drop i = ds[i] :: ds.drop (i + 1) := List.drop_eq_getElem_cons hl
    rw [edr] at ok'
    obtain ⟨go, yl⟩ := w1 _ ed
    refine ⟨go, fun σ2 H2 => ∃ m', m' < m ∧ Wv (i + 1) m' σ2 H2, fun σ2 H2 q => q, fun x H2 yy => ?_⟩
    obtain ⟨F2, al, rx⟩ := yl x H2 yy
    obtain ⟨r2, _, x2⟩ := al.rel (fv := []) r' (fun _ m => by simp at m) List.nodup_nil
    rw [List.append_nil] at x2
    have s2 : Same F' F2 := al.same r'.sub
    unfold mFor at ok'
    cases e1 : k ds[i] ρ' with
    | none => rw [e1] at ok'; exact (show False from ok').elim
    | some ρ3 =>
      rw [e1] at ok'
      dsimp only at ok'
      refine hg.sd _ x ρ' σ' F2 H2 gp ρ3 _ r2 rx e1 fun σ3 g3 r3 s3 q3 => ?_
      have x3 : Ext F' H' gp F2 H2 g3 := x2.sub s3
      have ok3 := OkS.ext x3 q3 ok'
      refine hb.sd ρ3 σ3 F2 H2 g3 _ r3 ?_
      cases e2 : mb ρ3 with
      | no => rw [e2] at ok3; exact ok3
      | ex y ρ4 => rw [e2] at ok3; exact ok3
      | ok f ρ4 =>
        rw [e2] at ok3
        cases f with
        | rt z => exact ok3
        | nx =>
          intro σ4 F4 H4 g4 r4 x4 q4
          refine ⟨ds.length - (i + 1), by omega, rfl, hl, ρ4, F4, g4, r4, fun a o z => r3.same x4 a o (s2 a o (s' a o z)), ?_⟩
          exact OkS.ext x4 q4 ok3
  · have e : i = ds.length := by omega
    refine .inl ⟨w2 (by omega), ?_⟩
    rw [e, List.drop_length] at ok'
    exact ok' σ' F' H' gp r' .refl rfl

/-! ### while -/
def iterW (c : MT) (b : MS) : Nat → MS
  | 0, _ => .no
  | n + 1, ρ => (c ρ).bind fun k ρ1 => if k = true then (b ρ1).bind fun f ρ2 => (match f with | .nx => iterW c b n ρ2 | .rt d => .ok (.rt d) ρ2) else .ok .nx ρ1
theorem iterW_mono (c : MT) (b : MS) : ∀ (n : Nat) (ρ : DEnv), iterW c b n ρ ≠ .no → iterW c b (n + 1) ρ = iterW c b n ρ
  | 0, ρ, h => absurd rfl h
  | n + 1, ρ, h => by
    unfold iterW at h
    rw [iterW, iterW]
    cases e : c ρ with
    | no => rfl
    | ex x ρ1 => rfl
    | ok k ρ1 =>
      rw [e] at h
      cases k with
      | false => rfl
      | true =>
        rw [R.bind_ok, if_pos rfl] at h
        rw [R.bind_ok, R.bind_ok, if_pos rfl, if_pos rfl]
        cases e2 : b ρ1 with
        | no => rfl
        | ex x ρ2 => rfl
        | ok f ρ2 =>
          rw [e2] at h
          cases f with
          | rt d => rfl
          | nx => exact iterW_mono c b n ρ2 h
theorem iterW_add (c : MT) (b : MS) (n : Nat) (ρ : DEnv) (h : iterW c b n ρ ≠ .no) : ∀ k : Nat, iterW c b (n + k) ρ = iterW c b n ρ
  | 0 => rfl
  | k + 1 => by
    have ih := iterW_add c b n ρ h k
    show iterW c b (n + k + 1) ρ = _
    rw [iterW_mono c b (n + k) ρ (by rw [ih]; exact h), ih]
open Classical in
noncomputable def mWhile (c : MT) (b : MS) : MS := fun ρ => if h : ∃ n, iterW c b n ρ ≠ .no then iterW c b h.choose ρ else .no
theorem mWhile_eq {c : MT} {b : MS} {ρ : DEnv} (n : Nat) (h : iterW c b n ρ ≠ .no) : mWhile c b ρ = iterW c b n ρ := by
  have hx : ∃ n, iterW c b n ρ ≠ .no := ⟨n, h⟩
  unfold mWhile
  rw [dif_pos hx]
  rcases Nat.le_total n hx.choose with q | q
  · obtain ⟨k, e⟩ := Nat.exists_eq_add_of_le q
    rw [e, iterW_add c b n ρ h k]
  · obtain ⟨k, e⟩ := Nat.exists_eq_add_of_le q
    conv => rhs; rw [e]
    rw [iterW_add c b _ ρ hx.choose_spec k]
theorem sv_while {tc : TT} {mc : MT} (hp : PassesOwn (model X.prog X.w) X.A X.env X.xe) (hc : ET X ks W c tc mc) (hb : SVs X ks W rsh fx body tb mb) : SV X ks W rsh fx (.While c body [] pos) (tWhile tc tb) (mWhile mc mb) := by
  refine ⟨ps_while hp hc.pe hb.pe, fun ρ σ F H fp D r hok => ?_⟩
  have hx : ∃ n, iterW mc mb n ρ ≠ .no := by
    by_cases q : ∃ n, iterW mc mb n ρ ≠ .no
    · exact q
    · unfold mWhile at hok
      rw [dif_neg q] at hok
      exact (show False from hok).elim
  obtain ⟨n, hn⟩ := hx
  rw [mWhile_eq n hn] at hok
  refine ⟨fun m σ' H' => ∃ ρ' F' gp, Rel X.K ks F' H' ρ' σ' gp ∧ OkS (bd X ks W) rsh fx F' H' gp σ' D (iterW mc mb m ρ'), ⟨n, ρ, F, fp, r, hok⟩, ?_⟩
  rintro m σ' H' ⟨ρ', F', gp, r', ok'⟩
  cases m with
  | zero => exact (show False from ok').elim
  | succ m =>
    unfold iterW at ok'
    refine hc.sd.go r' (Ok := OkS (bd X ks W) rsh fx F' H' gp σ' D) ok' (fun z => z) (fun _ _ z => z.x) fun kk ρ1 F1 H1 g1 h1 r1 x1 => ?_
    cases kk with
    | false =>
      rw [if_neg Bool.false_ne_true] at h1 ⊢
      exact h1 σ' F1 H1 g1 r1 x1 rfl
    | true =>
      rw [if_pos rfl] at h1 ⊢
      refine ⟨fun σ2 H2 => ∃ m', m' < m + 1 ∧ ∃ ρ' F' gp, Rel X.K ks F' H2 ρ' σ2 gp ∧ OkS (bd X ks W) rsh fx F' H2 gp σ2 D (iterW mc mb m' ρ'), fun _ _ q => q, ?_⟩
      have h2 := OkS.ext (σ1 := σ') x1 rfl h1
      refine hb.sd ρ1 σ' F1 H1 g1 _ r1 ?_
      cases e2 : mb ρ1 with
      | no => rw [e2] at h2; exact h2
      | ex y ρ4 => rw [e2] at h2; exact h2
      | ok f ρ4 =>
        rw [e2] at h2
        cases f with
        | rt z => exact h2
        | nx => exact fun σ4 F4 H4 g4 r4 x4 q4 => ⟨m, Nat.lt_succ_self _, ρ4, F4, g4, r4, OkS.ext x4 q4 h2⟩
end
end VL
/-! V9: comprehensions. -/
namespace VL
open PySem PySem.Spec L2

def R.bindN {α β : Type} (r : R α) (f : α → DEnv → R β) : R β := match r with
  | .ok a ρ => f a ρ
  | _ => .no
@[simp] theorem R.bindN_ok {α β : Type} (a : α) (ρ : DEnv) (f : α → DEnv → R β) : (R.ok a ρ).bindN f = f a ρ := rfl
def wipeD (ρ : DEnv) : List Nat → DEnv
  | [] => ρ
  | v :: vs => (wipeD ρ vs).set v none
def fillD (ρ1 : DEnv) : List Nat → DEnv → DEnv
  | [], ρ => ρ
  | v :: vs, ρ => fillD ρ1 vs (ρ.set v ((ρ1[v]?).bind id))
def mLcGo (k : D → DEnv → Option DEnv) (test : MT) (elt : ME) (vs : List Nat) : List D → List D → DEnv → R (List D)
  | [], acc, ρ => .ok acc ρ
  | d :: ds, acc, ρ => match k d (wipeD ρ vs) with
    | none => .no
    | some ρ1 => (test ρ1).bindN fun b ρ2 => if b = true then (elt ρ2).bindN fun y ρ3 => (if acc.length < 16777216 then mLcGo k test elt vs ds (acc ++ [y]) ρ3 else .no) else mLcGo k test elt vs ds acc ρ2
def mLc (ma : MA) (k : D → DEnv → Option DEnv) (test : MT) (elt : ME) (vs : List Nat) : ME := fun ρ => (ma ρ).bind fun ds ρ1 => (mLcGo k test elt vs ds [] ρ1).bind fun ys ρ2 => .ok (.lst ys) (fillD ρ1 vs (wipeD ρ2 vs))
section
variable {K : PySem.W.Frag} {ks : List Sh} {F H F' H' : Hp}
theorem RelL.wipes {ρ : DEnv} {σ : St} {fp : List Addr} (r : RelL K F H ks ρ σ fp) : ∀ vs : List Nat, ∃ g, RelL K F H ks (wipeD ρ vs) (wipe σ vs) g ∧ g.Sublist fp
  | [] => ⟨fp, r, .refl _⟩
  | v :: vs => by
    obtain ⟨g, r1, s1⟩ := RelL.wipes r vs
    obtain ⟨g2, r2, s2⟩ := r1.wipe1 v
    exact ⟨g2, r2.setV v none, s2.trans s1⟩
theorem Rel.wipes {ρ : DEnv} {σ : St} {fp : List Addr} (r : Rel K ks F H ρ σ fp) (vs : List Nat) : ∃ g, Rel K ks F H (wipeD ρ vs) (wipe σ vs) g ∧ ∀ y ∈ g, y ∈ fp := by
  obtain ⟨g, r1, s1⟩ := r.sl.wipes vs
  exact ⟨g, ⟨r.sub, r.nd.sublist s1, r1⟩, fun y m => s1.subset m⟩
theorem wipe_at {σ : St} {v : Nat} : ∀ {vs : List Nat}, v ∉ vs → (wipe σ vs)[v]? = σ[v]?
  | [], _ => rfl
  | u :: vs, h => by
    have h1 : v ≠ u := fun z => h (z ▸ List.mem_cons_self)
    have h2 : v ∉ vs := fun z => h (List.mem_cons_of_mem _ z)
    show ((wipe σ vs).set u none)[v]? = _
    rw [List.getElem?_set_ne (Ne.symm h1), wipe_at h2]
theorem set_none_idem (σ : St) (i : Nat) : (σ.set i none).set i none = σ.set i none := List.set_set ..
theorem wipe_none {σ : St} {v : Nat} : ∀ {vs : List Nat}, v ∈ vs → (wipe σ vs).set v none = wipe σ vs
  | u :: vs, h => by
    by_cases e : v = u
    · subst e; exact set_none_idem _ _
    · have h2 : v ∈ vs := (List.mem_cons.mp h).resolve_left e
      show ((wipe σ vs).set u none).set v none = (wipe σ vs).set u none
      rw [List.set_comm _ _ (Ne.symm e), wipe_none h2]
theorem wipe_sub (σ : St) (vs : List Nat) : ∀ {l : List Nat}, (∀ v ∈ l, v ∈ vs) → wipe (wipe σ vs) l = wipe σ vs
  | [], _ => rfl
  | u :: l, h => by
    show (wipe (wipe σ vs) l).set u none = _
    rw [wipe_sub σ vs fun v m => h v (List.mem_cons_of_mem _ m), wipe_none (h u List.mem_cons_self)]
theorem wipe_idem (σ : St) (vs : List Nat) : wipe (wipe σ vs) vs = wipe σ vs := wipe_sub σ vs fun _ m => m
theorem set_back {σ : St} {v : Nat} {x : Option V} (h : σ[v]? = some x) : (σ.set v none).set v x = σ := by
  rw [List.set_set]
  refine List.ext_getElem? fun j => ?_
  by_cases e : v = j
  · subst e
    rw [List.getElem?_set_self (List.getElem?_eq_some_iff.mp h).1, h]
  · rw [List.getElem?_set_ne e]
theorem Rel.fill {ρ1 : DEnv} {σ : St} {fp : List Addr} (r0 : Rel K ks F H ρ1 σ fp) (s : Same F F') : ∀ {vs : List Nat} {ρ : DEnv} {gp : List Addr}, vs.Nodup → (∀ v ∈ vs, ks[v]? = some .leaf) → Rel K ks F' H' ρ (wipe σ vs) gp → ∃ g, Rel K ks F' H' (fillD ρ1 vs ρ) σ g ∧ ∀ y ∈ g, y ∈ gp
  | [], ρ, gp, _, _, r => ⟨gp, r, fun _ m => m⟩
  | v :: vs, ρ, gp, nd, hk, r => by
    have nv : v ∉ vs := (List.nodup_cons.mp nd).1
    have hkv := hk v List.mem_cons_self
    have hv : v < σ.length := by
      rw [← r0.sl.lens.2, ← r0.sl.lens.1]
      exact (List.getElem?_eq_some_iff.mp hkv).1
    have ex : σ[v]? = some σ[v] := List.getElem?_eq_getElem hv
    have ew : (wipe σ vs)[v]? = some σ[v] := (wipe_at nv).trans ex
    cases e : (ρ1[v]?).bind id with
    | some d =>
      obtain ⟨w, f, g0, q1, q2, _, _⟩ := r0.sl.split hkv (getE e)
      obtain ⟨q3, _⟩ := q2.leafE
      have ew' : (wipe σ vs)[v]? = some (some w) := (wipe_at nv).trans q1
      obtain ⟨g1, r1, s1⟩ := r.store (fv := []) (v := w) (.leaf (q3.mono s)) (by rw [List.append_nil]; exact r.nd) hkv
      have r1' : Rel K ks F' H' (ρ.set v (some d)) (wipe σ vs) g1 := by
        have := r1
        rw [show (wipe σ (v :: vs)).set v (some w) = wipe σ vs from set_back ew'] at this
        exact this
      obtain ⟨g2, r2, s2⟩ := Rel.fill r0 s (List.nodup_cons.mp nd).2 (fun u m => hk u (List.mem_cons_of_mem _ m)) r1'
      refine ⟨g2, ?_, fun y m => by have := s1 y (s2 y m); rwa [List.append_nil] at this⟩
      unfold fillD
      rw [e]
      exact r2
    | none =>
      obtain ⟨g1, w1, sl⟩ := r.sl.wipe1 v
      have w2 := w1.setV v σ[v]
      rw [show (wipe σ (v :: vs)).set v σ[v] = wipe σ vs from set_back ew] at w2
      obtain ⟨g2, r2, s2⟩ := Rel.fill r0 s (List.nodup_cons.mp nd).2 (fun u m => hk u (List.mem_cons_of_mem _ m)) (gp := g1) ⟨r.sub, r.nd.sublist sl, w2⟩
      refine ⟨g2, ?_, fun y m => sl.subset (s2 y m)⟩
      unfold fillD
      rw [e]
      exact r2
end
abbrev W0 : WX := fun _ _ _ _ => False
theorem bindN_ok {α β : Type} {r : R α} {f : α → DEnv → R β} {g : R β → Prop} (h : g (r.bindN f)) (hn : ¬ g .no) : ∃ a ρ, r = .ok a ρ ∧ g (f a ρ) := by
  cases r with
  | ok a ρ => exact ⟨a, ρ, rfl, h⟩
  | ex e ρ => exact (hn h).elim
  | no => exact (hn h).elim
theorem snd_lc {b : Bd} {wi : TI} {g : TG} {tt : TT} {te : TE} {vs : List Nat} {ma : MA} {k : D → DEnv → Option DEnv} {mt : MT} {me : ME} (nd : vs.Nodup) (hk : ∀ v ∈ vs, b.ks[v]? = some .leaf)
    (hi : ∀ ρ σ F H fp (Q : It → Hp → Prop) (Ok : R D → Prop) (f : List D → DEnv → R D), Rel b.K b.ks F H ρ σ fp → Ok ((ma ρ).bind f) → ¬ Ok .no → (∀ e ρ1, Ok (.ex e ρ1) → OkX b F H fp σ e ρ1) →
      (∀ ds ρ1 J F1 H1 fp1, Ok (f ds ρ1) → Rel b.K b.ks F1 H1 ρ1 σ fp1 → Ext F H fp F1 H1 fp1 → Walks b.K J ds F1 → Q J H1) → wi σ H Q)
    (hg : ∀ d v ρ σ F H fp ρ' (Q : St → Hp → Prop), Rel b.K b.ks F H ρ σ fp → Rep b.K F v d → k d ρ = some ρ' → (∀ σ' gp, Rel b.K b.ks F H ρ' σ' gp → (∀ y ∈ gp, y ∈ fp) → wipe σ' vs = wipe σ vs → Q σ' H) → g v σ H Q)
    (ht : SndT ⟨b.K, b.mg, b.ks, W0⟩ tt mt) (he : SndE ⟨b.K, b.mg, b.ks, W0⟩ .leaf te me) : SndE b (.lst .leaf) (tLc wi g tt te vs) (mLc ma k mt me vs) := by
  intro ρ σ F H fp Q r hok
  refine hi ρ σ F H fp _ (OkE b (.lst .leaf) F H fp σ Q) _ r hok (fun z => z) (fun _ _ z => z) fun ds ρ1 J F1 H1 fp1 h1 r1 x1 wk => ?_
  intro Da nD
  have nDF : F1 Da = none := by
    cases e : F1 Da with
    | none => rfl
    | some y => have q := r1.sub _ _ e; rw [nD] at q; cases q
  have alc0 : Alc F1 H1 F1 (upd H1 Da (.lst [])) := upd_alcH r1.sub nD
  obtain ⟨r1', nd1', x1'⟩ := alc0.rel (fv := [Da]) r1 (fun x m => by simp at m; subst m; exact nD) (by simp)
  obtain ⟨g0, rw0, sw0⟩ := r1'.wipes vs
  let Wv : Nat → Nat → Hp → Prop := fun i m H' => m = ds.length - i ∧ i ≤ ds.length ∧ ∃ ρ' F' gp acc accV, Rel b.K b.ks F' H' (wipeD ρ' vs) (wipe σ vs) gp ∧ Same F1 F' ∧ F' Da = none ∧ H' Da = some (.lst accV) ∧ Da ∉ gp ∧ Reps b.K F' accV acc ∧
    Ext F1 H1 fp1 F' H' (gp ++ [Da]) ∧ OkE b (.lst .leaf) F H fp σ Q ((mLcGo k mt me vs (ds.drop i) acc ρ').bind fun ys ρ2 => .ok (.lst ys) (fillD ρ1 vs (wipeD ρ2 vs)))
  refine ⟨Wv, ⟨ds.length, by simp, Nat.zero_le _, ρ1, F1, g0, [], [], rw0, fun _ _ z => z, nDF, upd_same, ?_, .nil, x1'.sub fun y m => ?_, by rw [List.drop_zero]; exact h1⟩, ?_⟩
  · intro m
    have := sw0 _ m
    have n2 := (List.nodup_append.mp nd1').2.2
    exact n2 Da this Da (by simp) rfl
  · rcases List.mem_append.mp m with m | m
    · exact List.mem_append_left _ (sw0 y m)
    · exact List.mem_append_right _ m
  rintro i m H' ⟨hm, hi', ρ', F', gp, acc, accV, r', s', nF', eD, nG, ra, xx, ok'⟩
  obtain ⟨w1, w2⟩ := wk i F' H' s' r'.sub
  by_cases hl : i < ds.length
  · refine .inr ?_
    have ed : ds[i]? = some ds[i] := List.getElem?_eq_getElem hl
    have edr : ds.drop i = ds[i] :: ds.drop (i + 1) := List.drop_eq_getElem_cons hl
    rw [edr] at ok'
    obtain ⟨go, yl⟩ := w1 _ ed
    refine ⟨go, fun H2 => ∃ m', m' < m ∧ Wv (i + 1) m' H2, fun H2 q => q, fun x H2 yy => ?_⟩
    obtain ⟨F2, al, rx⟩ := yl x H2 yy
    obtain ⟨r2, _, x2⟩ := al.rel (fv := []) r' (fun _ m => by simp at m) List.nodup_nil
    rw [List.append_nil] at x2
    have s2 : Same F' F2 := al.same r'.sub
    have eD2 := al.keep Da _ eD
    unfold mLcGo at ok'
    cases e1 : k ds[i] (wipeD ρ' vs) with
    | none => rw [e1] at ok'; exact (show False from ok').elim
    | some ρ3 =>
      rw [e1] at ok'
      dsimp only at ok'
      refine hg _ x _ _ F2 H2 gp ρ3 _ r2 rx e1 fun σ3 g3 r3 s3 q3 => ⟨?_, ?_⟩
      · rw [q3]
        exact wipe_idem σ vs
      have q3' : wipe σ3 vs = wipe σ vs := q3.trans (wipe_idem σ vs)
      have x3 : Ext F' H' gp F2 H2 g3 := x2.sub s3
      obtain ⟨c, ρ4, e2, ok4⟩ := bindN_ok (g := fun r => OkE b (.lst .leaf) F H fp σ Q (r.bind fun ys ρ2 => .ok (.lst ys) (fillD ρ1 vs (wipeD ρ2 vs)))) ok' (fun z => z)
      have nG3 : Da ∉ g3 := fun z => nG (s3 _ z)
      refine ht ρ3 σ3 F2 H2 g3 _ r3 ?_
      rw [e2]
      intro F4 H4 g4 r4 x4
      have eD4 := x4.keep Da _ eD2.1 nG3
      have nG4 : Da ∉ g4 := fun z => by
        rcases x4.fr _ z with q | q
        · exact nG3 q
        · rw [eD2.1] at q; cases q
      have s4 : Same F2 F4 := r3.same x4
      -- the end of a turn
      have turn : ∀ {ρ5 : DEnv} {F5 H5 : Hp} {g5 : List Addr} {acc5 : List D} {accV5 : List V}, Rel b.K b.ks F5 H5 ρ5 σ3 g5 → Same F2 F5 → F5 Da = none → H5 Da = some (.lst accV5) → Da ∉ g5 → Reps b.K F5 accV5 acc5 → Ext F' H' (gp ++ [Da]) F5 H5 (g5 ++ [Da]) →
          OkE b (.lst .leaf) F H fp σ Q ((mLcGo k mt me vs (ds.drop (i + 1)) acc5 ρ5).bind fun ys ρ2 => .ok (.lst ys) (fillD ρ1 vs (wipeD ρ2 vs))) → ∃ m', m' < m ∧ Wv (i + 1) m' H5 := by
        intro ρ5 F5 H5 g5 acc5 accV5 r5 s5 n5 e5 ng5 ra5 x5 ok5
        obtain ⟨g6, r6, s6⟩ := r5.wipes vs
        rw [q3'] at r6
        refine ⟨ds.length - (i + 1), by omega, rfl, hl, ρ5, F5, g6, acc5, accV5, r6, fun a o z => s5 a o (s2 a o (s' a o z)), n5, e5, fun z => ng5 (s6 _ z), ra5, xx.trans (x5.sub fun y m => ?_), ok5⟩
        rcases List.mem_append.mp m with m | m
        · exact List.mem_append_left _ (s6 y m)
        · exact List.mem_append_right _ m
      have grow : ∀ {Fa Ha Fb Hb : Hp} {ga gb : List Addr}, Ext Fa Ha ga Fb Hb gb → Ext Fa Ha (ga ++ [Da]) Fb Hb (gb ++ [Da]) := fun {Fa Ha Fb Hb ga gb} z => ⟨fun a o e n => z.keep a o e fun q => n (List.mem_append_left _ q), fun a q => by
        rcases List.mem_append.mp q with q | q
        · rcases z.fr a q with p | p
          · exact .inl (List.mem_append_left _ p)
          · exact .inr p
        · exact .inl (List.mem_append_right _ q)⟩
      cases c with
      | false =>
        rw [if_neg Bool.false_ne_true] at ok4 ⊢
        refine turn r4 s4 (by rw [eD4.2, eD2.2]; exact nF') eD4.1 nG4 ((ra.mono s2).mono s4) ((grow x3).trans (grow x4)) ok4
      | true =>
        rw [if_pos rfl] at ok4 ⊢
        obtain ⟨y, ρ5, e3, ok5⟩ := bindN_ok (g := fun r => OkE b (.lst .leaf) F H fp σ Q (r.bind fun ys ρ2 => .ok (.lst ys) (fillD ρ1 vs (wipeD ρ2 vs)))) ok4 (fun z => z)
        refine he ρ4 σ3 F4 H4 g4 _ r4 ?_
        rw [e3]
        intro u F5 H5 g5 fv5 r5 nd5 x5 o5
        obtain ⟨ru, rfl⟩ := o5.leafE
        rw [List.append_nil] at x5 nd5
        have eD5 := x5.keep Da _ eD4.1 nG4
        have nG5 : Da ∉ g5 := fun z => by
          rcases x5.fr _ z with q | q
          · exact nG4 q
          · rw [eD4.1] at q; cases q
        have s5 : Same F4 F5 := r4.same x5
        have n5 : F5 Da = none := by rw [eD5.2, eD4.2, eD2.2]; exact nF'
        by_cases hlen : acc.length < 16777216
        · rw [if_pos hlen] at ok5
          refine ⟨accV, eD5.1, by rw [ra.length, sizeLine_eq]; exact hlen, ?_⟩
          have sub6 : Sub F5 (upd H5 Da (.lst (accV ++ [u]))) := sub_updH r5.sub n5 (by intro _ z; cases z)
          have r6 : Rel b.K b.ks F5 (upd H5 Da (.lst (accV ++ [u]))) ρ5 σ3 g5 := ⟨sub6, r5.nd, r5.sl.frame (fun _ _ z => z) fun a m => ⟨(r5.sl.own a m).1, upd_ne fun q => nG5 (q ▸ m)⟩⟩
          refine turn r6 (fun a o z => s5 a o (s4 a o z)) n5 upd_same nG5 ((((ra.mono s2).mono s4).mono s5).append (.cons ru .nil)) ?_ ok5
          refine ((grow x3).trans (grow x4)).trans ⟨fun a o e n => ?_, fun a m => ?_⟩
          · have na : a ≠ Da := fun q => n (by rw [q]; simp)
            have n4 : a ∉ g4 := fun q => n (List.mem_append_left _ q)
            obtain ⟨k1, k2⟩ := x5.keep a o e n4
            exact ⟨(upd_ne na).trans k1, k2⟩
          · rcases List.mem_append.mp m with m | m
            · rcases x5.fr a m with q | q
              · exact .inl (List.mem_append_left _ q)
              · exact .inr q
            · exact .inl (List.mem_append_right _ m)
        · rw [if_neg hlen] at ok5; exact (show False from ok5).elim
  · have e : i = ds.length := by omega
    refine .inl ⟨w2 (by omega), ?_⟩
    rw [e, List.drop_length] at ok'
    have ok2 := OkE.ext x1 ok'
    obtain ⟨g7, r7, s7⟩ := Rel.fill r1 s' nd hk r'
    refine ok2 (.ref Da) F' H' g7 [Da] r7 ?_ (xx.sub fun y m => ?_) (.lst nF' eD (ORs.ofReps ra))
    · refine List.nodup_append.mpr ⟨r7.nd, by simp, fun a m c m2 q => ?_⟩
      have : c = Da := by simpa using m2
      subst this
      subst q
      exact nG (s7 _ m)
    · rcases List.mem_append.mp m with m | m
      · exact List.mem_append_left _ (s7 y m)
      · exact List.mem_append_right _ m
def Tw (vs : List Nat) : St → St → Prop := fun σ' σ => wipe σ' vs = wipe σ vs
theorem tw_rel (vs : List Nat) : TRel (Tw vs) := ⟨fun _ => rfl, fun _ _ _ h k => Eq.trans h k⟩
theorem wipe_set {i : Nat} (σ : St) (x : Option V) : ∀ {vs : List Nat}, i ∈ vs → wipe (σ.set i x) vs = wipe σ vs
  | u :: vs, h => by
    show (wipe (σ.set i x) vs).set u none = (wipe σ vs).set u none
    by_cases e : i ∈ vs
    · rw [wipe_set σ x e]
    · have eu : u = i := ((List.mem_cons.mp h).resolve_right e).symm
      subst eu
      rw [wipe_out' σ x e]
      exact List.set_set ..
where
  wipe_out' {i : Nat} (σ : St) (x : Option V) : ∀ {vs : List Nat}, i ∉ vs → wipe (σ.set i x) vs = (wipe σ vs).set i x
    | [], _ => rfl
    | u :: vs, h => by
      have h1 : i ≠ u := fun z => h (z ▸ List.mem_cons_self)
      show (wipe (σ.set i x) vs).set u none = ((wipe σ vs).set u none).set i x
      rw [wipe_out' σ x fun z => h (List.mem_cons_of_mem _ z), List.set_comm _ _ h1]
theorem tw_set {i : Nat} {vs : List Nat} (h : i ∈ vs) (σ : St) (x : Option V) : Tw vs (σ.set i x) σ := wipe_set σ x h
/-- the tests of a comprehension: none, one -/
structure ETs (X : Cx) (ks : List Sh) (W : WX) (ifs : List Expr) (t : TT) (m : MT) : Prop where
  pe : PTs X ifs t
  sd : SndT (bd X ks W) t m
def mYes : MT := fun ρ => .ok true ρ
section
variable {X : Cx} {ks : List Sh} {W : WX}
theorem ets_nil : ETs X ks W [] tYes mYes := ⟨pts_nil, fun ρ σ F H fp Q r h => h F H fp r .refl⟩
theorem ets_one {c : Expr} {t : TT} {m : MT} (h : ET X ks W c t m) : ETs X ks W [c] t m := ⟨pts_one h.pe, h.sd⟩
theorem ev_lc {elt tg iter : Expr} {ifs : List Expr} {scope : Scope} {own : List (Str × Nat)} {pos : Pos} {wi : TI} {g : TG} {tt : TT} {te : TE} {ma : MA} {k : D → DEnv → Option DEnv} {mt : MT} {me : ME} (hc : X.calm = true) (hN : X.N.Nodup) (hi : IV X ks W tg iter wi ma)
    (ok : BlkOk X.N X.env.scope scope own) (nd : (own.map (·.2)).Nodup) (hk : ∀ v ∈ own.map (·.2), ks[v]? = some .leaf)
    (hg : ∀ (s : Shared) (H : Hp) (C : Addr) (cl : List (Str × Addr)) (fp : List Addr), GV (X.blk s H scope (compEnvC scope cl C X.env) fp) ks (Tw (own.map (·.2))) tg g k)
    (ht : ∀ (s : Shared) (H : Hp) (C : Addr) (cl : List (Str × Addr)) (fp : List Addr), ETs (X.blk s H scope (compEnvC scope cl C X.env) fp) ks W0 ifs tt mt)
    (he : ∀ (s : Shared) (H : Hp) (C : Addr) (cl : List (Str × Addr)) (fp : List Addr), EV (X.blk s H scope (compEnvC scope cl C X.env) fp) ks W0 elt .leaf te me) (hs : ∀ x, foldedSetIterable iter X.env x = pure x := by intro _; rfl) :
    EV X ks W (.ListComp elt [⟨tg, iter, ifs, 0⟩] scope pos) (.lst .leaf) (tLc wi g tt te (own.map (·.2))) (mLc ma k mt me (own.map (·.2))) :=
  ⟨pe_lc hc hN hi.pe ok (fun s H C cl fp => (hg s H C cl fp).pe) (fun s H C cl fp => (ht s H C cl fp).pe) (fun s H C cl fp => (he s H C cl fp).pe) hs,
    snd_lc (b := bd X ks W) nd hk (fun ρ σ F H fp Q Ok f r h1 h2 h3 h4 => hi.sd ρ σ F H fp Q Ok f r h1 h2 h3 h4) (fun d v ρ σ F H fp ρ' Q r rp e kk => (hg X.s_0 X.H_0 0 [] []).sd d v ρ σ F H fp ρ' Q r rp e kk)
      (ht X.s_0 X.H_0 0 [] []).sd (he X.s_0 X.H_0 0 [] []).sd⟩
/-- name = [..] -/
theorem sv_setLc {rsh : Sh} {fx : Nat} {i : Nat} {y : Str} {py : Pos} {elt tg iter : Expr} {ifs : List Expr} {scope : Scope} {own : List (Str × Nat)} {pos spos : Pos} {wi : TI} {g : TG} {tt : TT} {te : TE} {ma : MA} {k : D → DEnv → Option DEnv} {mt : MT} {me : ME} {sh : Sh} (hc : X.calm = true) (hN : X.N.Nodup)
    (hy : X.N[i]? = some y) (hyl : X.env.scope.names.lookup y = some .local) (hky : ks[i]? = some sh) (hf : fx ≤ i) (hsh : sh = .lst .leaf ∨ sh = .leaf)
    (hsw : swapsWith (.ListComp elt [⟨tg, iter, ifs, 0⟩] scope pos) (some (.Name y py)) spos.line X.env = pure true) (hi : IV X ks W tg iter wi ma)
    (ok : BlkOk X.N X.env.scope scope own) (nd : (own.map (·.2)).Nodup) (hk : ∀ v ∈ own.map (·.2), ks[v]? = some .leaf)
    (hg : ∀ (s : Shared) (H : Hp) (C : Addr) (cl : List (Str × Addr)) (fp : List Addr), GV (X.blk s H scope (compEnvC scope cl C X.env) fp) ks (Tw (own.map (·.2))) tg g k)
    (ht : ∀ (s : Shared) (H : Hp) (C : Addr) (cl : List (Str × Addr)) (fp : List Addr), ETs (X.blk s H scope (compEnvC scope cl C X.env) fp) ks W0 ifs tt mt)
    (he : ∀ (s : Shared) (H : Hp) (C : Addr) (cl : List (Str × Addr)) (fp : List Addr), EV (X.blk s H scope (compEnvC scope cl C X.env) fp) ks W0 elt .leaf te me) (hs : ∀ x, foldedSetIterable iter X.env x = pure x := by intro _; rfl) :
    SV X ks W rsh fx (.Assign [.Name y py] (.ListComp elt [⟨tg, iter, ifs, 0⟩] scope pos) spos) (tAsg (tLc wi g tt te (own.map (·.2))) (gName i)) (mSet i (mLc ma k mt me (own.map (·.2)))) := by
  have h1 : EV X ks W (.ListComp elt [⟨tg, iter, ifs, 0⟩] scope pos) (.lst .leaf) (tLc wi g tt te (own.map (·.2))) (mLc ma k mt me (own.map (·.2))) := ev_lc hc hN hi ok nd hk hg ht he hs
  have h2 : EV X ks W (.ListComp elt [⟨tg, iter, ifs, 0⟩] scope pos) sh (tLc wi g tt te (own.map (·.2))) (mLc ma k mt me (own.map (·.2))) := by
    rcases hsh with z | z
    · subst z; exact h1
    · subst z; exact ev_frzL h1
  refine ⟨ps_setLc hc hN hy hyl hsw hi.pe ok (fun s H C cl fp => (hg s H C cl fp).pe) (fun s H C cl fp => (ht s H C cl fp).pe) (fun s H C cl fp => (he s H C cl fp).pe) hs, fun ρ σ F H fp D r hok => h2.sd ρ σ F H fp _ r ?_⟩
  unfold mSet at hok
  cases em : mLc ma k mt me (own.map (·.2)) ρ with
  | no => rw [em] at hok; exact hok
  | ex z ρ1 => rw [em] at hok; exact OkS.x hok
  | ok d ρ1 =>
    rw [em] at hok
    intro v F' H' fp' fv r' nd' x' o
    obtain ⟨gp, r2, sb⟩ := r'.store o nd' hky
    exact hok (σ.set i (some v)) F' H' gp r2 (x'.sub sb) (take_set hf)
end
end VL
/-! V10: defs whose callers' guards are known; their promise by data; calls; the end. -/
namespace VL
open PySem PySem.Spec L2

/-- a def's promise, where no guard stands -/
structure FnG (P : Program) (w : World) (K : PySem.W.Frag) (mg : Str → Option Value) (base : Heap) (CX : CXT) (k : Nat) (f : Addr) (fd : FuncData) (ps : List Str) (sp : Sp) : Prop where
  len : ∀ vs H Q E, sp vs H Q E → vs.length = ps.length
  run : ∀ (A : Around) (outer : List Env) (s : Shared) (H : Hp) (args : Args) (us : List Value) (vs : List V) (Q : VK) (E : XK), Room k A → A.guards = some [] → Env0 P w K mg base A outer s H →
    BindsTo s fd args (ps.zip us) → Vals vs us → sp vs H Q E → codeAny (model P w) A (.call (.ref f) args) (CR CX outer P w H s Q E) s
theorem FnG.mono {P : Program} {w : World} {K : PySem.W.Frag} {mg : Str → Option Value} {base : Heap} {CX : CXT} {j k : Nat} {f : Addr} {fd : FuncData} {ps : List Str} {sp : Sp}
    (G : FnG P w K mg base CX j f fd ps sp) (h : j ≤ k) : FnG P w K mg base CX k f fd ps sp :=
  ⟨G.len, fun A o s H a us vs Q E hr => G.run A o s H a us vs Q E (hr.mono h)⟩
/-- its body -/
theorem fng_of {CX : CXT} {P : Program} {w : World} {K : PySem.W.Frag} {mg : Str → Option Value} {base : Heap} {k : Nat} {f : Addr} {nm qn : Str} {pa : Arguments} {bo : List Stmt} {sc : Scope} {dV kV doc pm cdv ct oc : Value} {an od : Option Addr}
    {osl : Array (Option Value)} {N ps : List Str} {sp : Sp}
    (lk : K.lookup f = some ⟨oc, od, .func (PySem.W.fnOf nm qn pa bo sc dV kV doc pm an cdv ct), osl⟩) (hcd : PySem.W.codeIn K cdv qn = true) (S : FnScope N ps sc) (len : ∀ vs H Q E, sp vs H Q E → vs.length = ps.length)
    (body : ∀ (A : Around) (outer : List Env) (s : Shared) (H : Hp) (vs : List V) (Q : VK) (E : XK), Room k (A.deeper (PyProof.Rows.envOfC qn sc s.heap.objs.size f cdv)) → A.guards = some [] → sp vs H Q E →
      ∃ t, PSs (cxOf CX P w K mg base N qn sc f cdv A outer s H E) bo t ∧ t { nx := fun _ H' => Q .non H', rt := Q } (L2.start N vs) H) :
    FnG P w K mg base CX (k + 1) f (PySem.W.fnOf nm qn pa bo sc dV kV doc pm an cdv ct) ps sp := by
  refine ⟨len, fun A outer s H args us vs Q E hr hgd e0 hb r hsp => ?_⟩
  have kin : K.In s.heap := e0.mod.kin.keeps fun b o e => (e0.bs b o e).1
  have nolim : s.heap.NoLimit := e0.mod.nolimit.keeps fun b o e => (e0.bs b o e).1
  have kinds : ∀ y ∈ ps.zip us, sc.names.lookup y.1 = some .local ∨ (sc.names.lookup y.1 = some .cell ∧ ((cellsFrom (s.heap.objs.size + 1) sc.names []).lookup y.1).isSome = true) := by
    rintro ⟨n, v⟩ hy
    cases S.par n (List.of_mem_zip hy).1 with
    | inl q => exact .inl q
    | inr q => exact .inr ⟨q, PySem.W.cellsFrom_some _ _ _ (.inl q)⟩
  refine codeAny_call_function hr.depth (kin _ _ lk) rfl S.co S.gen rfl (PySem.W.codeRec_of kin hcd) (hb _ _ _ _ ?_)
  refine wpAny_newFunctionEnv_cells S.kind kinds fun env he s1 x => ?_
  subst he
  refine ⟨nolim.keeps x.toInCall.keep, codeAny_func ?_⟩
  obtain ⟨t, ht, hq⟩ := body A outer s H vs Q E (hr.deeper _) hgd hsp
  have I := inv_start (CX := CX) (P := P) (w := w) (K := K) (mg := mg) (base := base) (E := E) (cd := cdv) (f := f) S hr.hd e0 (len _ _ _ _ hsp) r x
  refine wpAny_mono (ht.run [] s1 (L2.start N vs) H _ I hq) (fun fl s' hs => ?_) (fun _ _ z => z)
  cases fl with
  | ret u => obtain ⟨v, σ', H', J, rv, q⟩ := hs; exact ⟨v, H', J.os, J.bare, J.base, J.hok, rv, q⟩
  | next => obtain ⟨σ', H', J, q⟩ := hs; exact ⟨.non, H', J.os, J.bare, J.base, J.hok, rfl, q⟩
  | brk => obtain ⟨_, _, _, q⟩ := hs; exact q.elim
  | cont => obtain ⟨_, _, _, q⟩ := hs; exact q.elim
section
variable {X : Cx} {CX : CXT} {k : Nat} {f C : Addr} {fd : FuncData} {ps : List Str} {sp : Sp} {x : Str} {p pos : Pos} {e : Expr} {es : List Expr} {t : TA}
theorem run_fng {E : XK} {pins : List (Addr × Obj)} {σ : St} {H : Hp} {s : Shared} {Q : VK} {us : List Value} {vs : List V} (G : FnG X.prog X.w X.K X.mg X.base CX k f fd ps sp) (hr : Room k X.A) (hgd : X.A.guards = some []) (hb : Binds X.K fd ps []) (hx : PassesAt CX X σ E)
    (I : Inv X pins σ H s) (r : Vals vs us) (h : sp vs H Q E) : wpAny (model X.prog X.w) X.A (call (.ref f) us) (EP X pins σ Q) X.xe s := by
  have hl : (us ++ ([] : List Value)).length = ps.length := by rw [List.append_nil, ← r.length]; exact G.len _ _ _ _ h
  have hb' := hb s us I.kIn hl
  rw [List.append_nil] at hb'
  refine wpAny_call (codeAny_mono (G.run X.A X.stack s H ⟨us, []⟩ us vs Q E hr hgd I.env0 hb' r h) fun r s' hq => ?_)
  match r, hq with
  | .error e, hq => exact hx pins H s e s' I hq
  | .ok (.ret u), hq => exact I.after hq
  | .ok .next, hq => exact False.elim hq
  | .ok .brk, hq => exact False.elim hq
  | .ok .cont, hq => exact False.elim hq
/-- f(e, ..) -/
theorem pe_callG {E : St → XK} (G : FnG X.prog X.w X.K X.mg X.base CX k f fd ps sp) (hr : Room k X.A) (hgd : X.A.guards = some []) (hg : Gl X x) (hm : X.mg x = some (.ref f)) (hk : PySem.W.keepIn X.K (.ref f) = true) (hb : Binds X.K fd ps []) (hx : ∀ σ, PassesAt CX X σ (E σ))
    (ha : PA X (e :: es) t) (hdb : (x == ("__debug__" : Str)) = false) (he : starEach (e :: es) X.env = (false, eval e X.env) :: starEach es X.env) (hpl : (backTo pos (starEach es X.env)).any (·.1) = false) :
    PE X (.Call (.Name x p) (e :: es) [] pos) (tCallS sp E t) := by
  refine ⟨fun pins s σ H Q I h => wpAny_Call_Name_kw (ld_glob I hg hm ?_ hdb)⟩
  exact PySem.W.callWith_K (h₀ := X.base) I.ok.mod.kin hk (thn (ha.run pos pins s σ H _ I h) fun us s1 ⟨vs, H1, I1, r, q⟩ => ⟨I1.kIn, run_fng G hr hgd hb (hx σ) I1 r q⟩) he hpl
end

/-! ### a promise by data -/
def OkF (K : PySem.W.Frag) (mg : Str → Option Value) (psh : List Sh) (fx : Nat) (rsh : Sh) (F H : Hp) (fp : List Addr) (vs : List V) (Q : VK) (E : XK) : R D → Prop
  | .no => False
  | .ok d ρ' => ∀ v F' H' fp' fv, Rel K (psh.take fx) F' H' ρ' ((vs.take fx).map some) fp' → (fp' ++ fv).Nodup → Ext F H fp F' H' (fp' ++ fv) → OR K F' H' rsh v d fv → Q v H'
  | .ex e ρ' => ∀ cls dx F' H' fp', Rel K (psh.take fx) F' H' ρ' ((vs.take fx).map some) fp' → Ext F H fp F' H' fp' → ExR ⟨K, mg, [], W0⟩ F' e cls dx → E cls dx H'
/-- psh: the parameters' shapes, the first fx of them are handed back; rsh: the result's shape; g: what it computes -/
def spV (K : PySem.W.Frag) (mg : Str → Option Value) (n : Nat) (psh : List Sh) (fx : Nat) (rsh : Sh) (g : List D → R D) : Sp := fun vs H Q E =>
  vs.length = n ∧ ∃ F fp ds, Rel K psh F H (ds.map some) (vs.map some) fp ∧ OkF K mg psh fx rsh F H fp vs Q E (g ds)
/-- the end of a body -/
def fin (fx : Nat) : R Fl → R D
  | .no => .no
  | .ok .nx ρ => .ok .non (ρ.take fx)
  | .ok (.rt d) ρ => .ok d (ρ.take fx)
  | .ex e ρ => .ex e (ρ.take fx)
/-- a result that is no exception -/
def R.noEx {α : Type} : R α → R α
  | .ex _ _ => .no
  | r => r
@[simp] theorem R.noEx_ok {α : Type} (a : α) (ρ : DEnv) : (R.ok a ρ).noEx = .ok a ρ := rfl
def runF (N fx : Nat) (m : MS) : List D → R D := fun ds => fin fx (m (ds.map some ++ List.replicate (N - ds.length) none))
theorem RelL.take {K : PySem.W.Frag} {F H : Hp} : ∀ {ks : List Sh} {ρ : DEnv} {σ : St} {fp : List Addr} (n : Nat), RelL K F H ks ρ σ fp → ∃ g, RelL K F H (ks.take n) (ρ.take n) (σ.take n) g ∧ g.Sublist fp
  | _, _, _, _, 0, _ => ⟨[], .nil, List.nil_sublist _⟩
  | _, _, _, _, _ + 1, .nil => ⟨[], .nil, .refl _⟩
  | _, _, _, _, n + 1, .non r => by
    obtain ⟨g, a, b⟩ := RelL.take n r
    exact ⟨g, .non a, b⟩
  | _, _, _, _, n + 1, .som o r => by
    obtain ⟨g, a, b⟩ := RelL.take n r
    exact ⟨_, .som o a, List.Sublist.append (.refl _) b⟩
theorem RelL.more {K : PySem.W.Frag} {F H : Hp} : ∀ (ls : List Sh) {ks : List Sh} {ρ : DEnv} {σ : St} {fp : List Addr}, RelL K F H ks ρ σ fp → RelL K F H (ks ++ ls) (ρ ++ List.replicate ls.length none) (σ ++ List.replicate ls.length none) fp
  | [], _, _, _, _, .nil => .nil
  | _ :: ls, _, _, _, _, .nil => .non (RelL.more ls .nil)
  | ls, _, _, _, _, .non r => .non (RelL.more ls r)
  | ls, _, _, _, _, .som o r => .som o (RelL.more ls r)
/-- the body's reading from its judgement -/
theorem body_ok {X : Cx} {W : WX} {psh lsh : List Sh} {fx : Nat} {rsh : Sh} {bo : List Stmt} {t : TS} {m : MS} {vs : List V} {H : Hp} {Q : VK} {E : XK} {n : Nat} {N : List Str} (h : SVs X (psh ++ lsh) W rsh fx bo t m) (hn : psh.length = n) (hN : N.length = n + lsh.length) (hfx : fx ≤ n) (hnx : rsh = .leaf ∨ ∀ ρ ρ', m ρ ≠ .ok .nx ρ')
    (hW : ∀ cls d σ H', E cls d H' → W cls d σ H') (hs : spV X.K X.mg n psh fx rsh (runF (n + lsh.length) fx m) vs H Q E) : t { nx := fun _ H' => Q .non H', rt := Q } (L2.start N vs) H := by
  obtain ⟨hl, F, fp, ds, r, ok⟩ := hs
  have l1 := r.sl.lens
  have hd : ds.length = n := by have := l1.1; rw [List.length_map] at this; omega
  have e1 : L2.start N vs = vs.map some ++ List.replicate lsh.length none := by
    unfold L2.start
    rw [hN, hl]
    congr 2
    omega
  have e2 : n + lsh.length - ds.length = lsh.length := by omega
  rw [e1]
  refine h.sd (ds.map some ++ List.replicate lsh.length none) _ F H fp _ ⟨r.sub, r.nd, r.sl.more lsh⟩ ?_
  unfold runF at ok
  rw [e2] at ok
  have tk0 : (vs.map some ++ List.replicate lsh.length none).take fx = (vs.take fx).map some := by
    rw [List.take_append_of_le_length (by rw [List.length_map]; omega), List.map_take]
  have tks : (psh ++ lsh).take fx = psh.take fx := List.take_append_of_le_length (by omega)
  -- from the whole frame to the parameters handed back
  have cut : ∀ {F' H' : Hp} {ρ' : DEnv} {σ' : St} {fp' fv : List Addr}, Rel X.K (psh ++ lsh) F' H' ρ' σ' fp' → (fp' ++ fv).Nodup → Ext F H fp F' H' (fp' ++ fv) → σ'.take fx = (vs.map some ++ List.replicate lsh.length none).take fx →
      ∃ gp, Rel X.K (psh.take fx) F' H' (ρ'.take fx) ((vs.take fx).map some) gp ∧ (gp ++ fv).Nodup ∧ Ext F H fp F' H' (gp ++ fv) := fun {F' H' ρ' σ' fp' fv} r' nd x q => by
    obtain ⟨g, a, b⟩ := r'.sl.take fx
    rw [tks, q, tk0] at a
    refine ⟨g, ⟨r'.sub, r'.nd.sublist b, a⟩, nd.sublist (List.Sublist.append b (.refl _)), x.sub fun y m => ?_⟩
    rcases List.mem_append.mp m with m | m
    · exact List.mem_append_left _ (b.subset m)
    · exact List.mem_append_right _ m
  cases em : m (ds.map some ++ List.replicate lsh.length none) with
  | no => rw [em] at ok; exact ok
  | ex e ρ' =>
    rw [em] at ok
    intro cls dx σ' F' H' fp' r' x q ex
    obtain ⟨gp, r2, _, x2⟩ := cut (fv := []) r' (by rw [List.append_nil]; exact r'.nd) (by rw [List.append_nil]; exact x) q
    rw [List.append_nil] at x2
    exact hW _ _ _ _ (ok cls dx F' H' gp r2 x2 ex)
  | ok f ρ' =>
    rw [em] at ok
    cases f with
    | nx =>
      intro σ' F' H' fp' r' x q
      rcases hnx with z | z
      · subst z
        obtain ⟨gp, r2, nd2, x2⟩ := cut (fv := []) r' (by rw [List.append_nil]; exact r'.nd) (by rw [List.append_nil]; exact x) q
        exact ok .non F' H' gp [] r2 nd2 x2 (.leaf .non)
      · exact absurd em (z _ _)
    | rt d =>
      intro v σ' F' H' fp' fv r' nd x q o
      obtain ⟨gp, r2, nd2, x2⟩ := cut r' nd x q
      exact ok v F' H' gp fv r2 nd2 x2 o
section
variable {P : Program} {w : World} {K : PySem.W.Frag} {mg : Str → Option Value} {base : Heap}
/-- a def that raises nothing -/
theorem Fun.okG {x qual : Str} {st : Stmt} {f : Addr} {fd : FuncData} {N ps : List Str} {k n : Nat} {psh lsh : List Sh} {fx : Nat} {rsh : Sh} {m : MS} (G : L2.Fun K x qual st f fd) (S : FnScope N ps (defScope st)) (hp : ps.length = n) (hn : psh.length = n) (hN : N.length = n + lsh.length) (hfx : fx ≤ n) (hnx : rsh = .leaf ∨ ∀ ρ ρ', m ρ ≠ .ok .nx ρ')
    (body : ∀ X : Cx, X.prog = P → X.w = w → X.K = K → X.mg = mg → X.base = base → X.N = N → X.calm = true → X.xe = (fun _ _ => False) → X.fn = (fun _ => true) → (∃ L f cd, X.env = PyProof.Rows.envOfC qual (defScope st) L f cd) → Room k X.A → X.A.guards = some [] →
      ∃ t, SVs X (psh ++ lsh) W0 rsh fx (defBody st) t m) : FnG P w K mg base CX0 (k + 1) f fd ps (spV K mg n psh fx rsh fun ds => (runF (n + lsh.length) fx m ds).noEx) := by
  obtain ⟨oc, od, kV, doc, pm, an, cdv, ct, osl, rfl, lk, hcd⟩ := G.ex
  refine fng_of lk hcd S (fun vs H Q E h => h.1.trans hp.symm) fun A outer s H vs Q E hr hgd hsp => ?_
  obtain ⟨t, ht⟩ := body (cxOf CX0 P w K mg base N qual (defScope st) f cdv A outer s H E).nox rfl rfl rfl rfl rfl rfl rfl rfl rfl ⟨_, _, _, rfl⟩ hr hgd
  refine ⟨t, ht.pe.nox, body_ok (E := fun _ _ _ => False) ht hn hN hfx hnx (fun _ _ _ _ z => z) ?_⟩
  obtain ⟨h1, F, fp, ds, r, ok⟩ := hsp
  refine ⟨h1, F, fp, ds, r, ?_⟩
  dsimp only at ok
  cases e : runF (n + lsh.length) fx m ds with
  | no => rw [e] at ok; exact ok
  | ok d ρ' => rw [e] at ok; exact ok
  | ex y ρ' => rw [e] at ok; exact (show False from ok).elim
/-- a def that may raise -/
theorem Fun.okXG {x qual : Str} {st : Stmt} {f : Addr} {fd : FuncData} {N ps : List Str} {k n : Nat} {psh lsh : List Sh} {fx : Nat} {rsh : Sh} {m : MS} (G : L2.Fun K x qual st f fd) (S : FnScope N ps (defScope st)) (hp : ps.length = n) (hn : psh.length = n) (hN : N.length = n + lsh.length) (hfx : fx ≤ n) (hnx : rsh = .leaf ∨ ∀ ρ ρ', m ρ ≠ .ok .nx ρ')
    (body : ∀ (X : Cx) (W : WX), X.prog = P → X.w = w → X.K = K → X.mg = mg → X.base = base → X.N = N → X.calm = true → Takes X W → PassesOwn (model X.prog X.w) X.A X.env X.xe → X.fn = (fun _ => true) → (∃ L f cd, X.env = PyProof.Rows.envOfC qual (defScope st) L f cd) → Room k X.A → X.A.guards = some [] →
      ∃ t, SVs X (psh ++ lsh) W rsh fx (defBody st) t m) : FnG P w K mg base (L2.CX P w) (k + 1) f fd ps (spV K mg n psh fx rsh (runF (n + lsh.length) fx m)) := by
  obtain ⟨oc, od, kV, doc, pm, an, cdv, ct, osl, rfl, lk, hcd⟩ := G.ex
  refine fng_of lk hcd S (fun vs H Q E h => h.1.trans hp.symm) fun A outer s H vs Q E hr hgd hsp => ?_
  obtain ⟨t, ht⟩ := body (cxOf (L2.CX P w) P w K mg base N qual (defScope st) f cdv A outer s H E) (fun cls d _ H' => E cls d H') rfl rfl rfl rfl rfl rfl rfl (takes_of rfl rfl rfl rfl) (passes_of rfl) rfl ⟨_, _, _, rfl⟩ hr hgd
  exact ⟨t, ht.pe, body_ok ht hn hN hfx hnx (fun _ _ _ _ z => z) hsp⟩
end

/-! ### calls -/
def mCall0 (n : Nat) (g : List D → R D) (a : MA) : ME := fun ρ => (a ρ).bind fun ds ρ1 => if ds.length = n then (match g ds with | .ok d _ => .ok d ρ1 | .ex e _ => .ex e ρ1 | .no => .no) else .no
def mCall1 (i n : Nat) (g : List D → R D) (a : MA) : ME := fun ρ => (R.of (own ρ i) ρ).bind fun _ _ => (a ρ).bind fun ds ρ1 => (R.of (own ρ1 i) ρ1).bind fun d0 _ =>
  if ds.length = n then (match g (d0 :: ds) with | .ok d [some d1] => .ok d (ρ1.set i (some d1)) | .ex e [some d1] => .ex e (ρ1.set i (some d1)) | _ => .no) else .no
abbrev leaves (n : Nat) : List Sh := List.replicate n .leaf
theorem relL_leaves {K : PySem.W.Frag} {F H : Hp} : ∀ {vs : List V} {ds : List D}, Reps K F vs ds → RelL K F H (leaves ds.length) (ds.map some) (vs.map some) []
  | _, _, .nil => .nil
  | _, _, .cons h t => RelL.som (f := []) (fp := []) (.leaf h) (relL_leaves t)
section
variable {X : Cx} {ks : List Sh} {W : WX} {CX : CXT} {k n : Nat} {f : Addr} {fd : FuncData} {ps : List Str} {rsh s0 : Sh} {g : List D → R D} {x : Str} {p pos : Pos} {e : Expr} {es : List Expr} {t : TA} {ma : MA}
theorem snd_call0 {b : Bd} (hW : b.W = W) (ha : SndA b t ma) : SndE b rsh (tCallS (spV b.K b.mg n (leaves n) 0 rsh g) (WE W) t) (mCall0 n g ma) := by
  intro ρ σ F H fp Q r hok
  refine ha.go r (Ok := OkE b rsh F H fp σ Q) hok (fun z => z) (fun _ _ z => z) fun ds ρ1 vs F1 H1 fp1 h1 r1 x1 p1 => ?_
  by_cases hn : ds.length = n
  · rw [if_pos hn] at h1
    refine ⟨by rw [p1.length]; exact hn, F1, [], ds, ⟨r1.sub, List.nodup_nil, by rw [← hn]; exact relL_leaves p1⟩, ?_⟩
    have h2 := OkE.ext x1 h1
    -- the callee only lays
    have back : ∀ {F' H' : Hp} {fp' fv : List Addr}, Sub F' H' → Ext F1 H1 [] F' H' (fp' ++ fv) → Alc F1 H1 F' H' := fun {F' H' fp' fv} s x => ⟨s, fun a o z => x.keep a o z (by simp)⟩
    cases eg : g ds with
    | no => rw [eg] at h2; exact h2
    | ok d ρ' =>
      rw [eg] at h2
      intro v F' H' fp' fv r' nd x o
      have nd' := List.nodup_append.mp nd
      obtain ⟨r2, nd2, x2⟩ := (back r'.sub x).rel (fv := fv) r1 (fun y m => (x.fr y (List.mem_append_right _ m)).resolve_left (by simp)) nd'.2.1
      exact h2 v F' H' fp1 fv r2 nd2 x2 o
    | ex y ρ' =>
      rw [eg] at h2
      intro cls dx F' H' fp' r' x ex
      obtain ⟨r2, _, x2⟩ := (back (fv := []) r'.sub (by rw [List.append_nil]; exact x)).rel (fv := []) r1 (fun y m => by simp at m) List.nodup_nil
      rw [List.append_nil] at x2
      show W cls dx σ H'
      rw [← hW]
      exact h2 cls dx F' H' fp1 r2 x2 ex
  · rw [if_neg hn] at h1; exact (show False from h1).elim
theorem snd_call1 {b : Bd} {i : Nat} (hW : b.W = W) (hk : b.ks[i]? = some s0) (ha : SndA b t ma) : SndE b rsh (tCallS (spV b.K b.mg (n + 1) (s0 :: leaves n) 1 rsh g) (WE W) (tCons (tVar i) t)) (mCall1 i n g ma) := by
  intro ρ σ F H fp Q r hok
  unfold mCall1 at hok
  cases e0 : own ρ i with
  | none => rw [e0] at hok; exact (show False from hok).elim
  | some dd =>
    rw [e0] at hok
    obtain ⟨v, f0, g0, s1, _, _, _⟩ := r.sl.split hk (getE e0)
    refine ⟨v, s1, ?_⟩
    refine ha.go r (Ok := OkE b rsh F H fp σ Q) hok (fun z => z) (fun _ _ z => z) fun ds ρ1 vs F1 H1 fp1 h1 r1 x1 p1 => ?_
    cases e1 : own ρ1 i with
    | none => rw [e1] at h1; exact (show False from h1).elim
    | some d0 =>
      rw [e1, R.of_some, R.bind_ok] at h1
      by_cases hn : ds.length = n
      · rw [if_pos hn] at h1
        obtain ⟨v', fa, gb, s2, o1, sl, pm⟩ := r1.sl.split hk (getE e1)
        rw [s1] at s2
        cases s2
        have nda := List.nodup_append.mp (pm.nodup_iff.mp r1.nd)
        have rl : RelL b.K F1 H1 (s0 :: leaves n) (some d0 :: ds.map some) (some v :: vs.map some) (fa ++ []) := .som o1 (by rw [← hn]; exact relL_leaves p1)
        rw [List.append_nil] at rl
        refine ⟨by rw [List.length_cons, p1.length, hn], F1, fa, d0 :: ds, ⟨r1.sub, nda.1, rl⟩, ?_⟩
        have h2 := OkE.ext x1 h1
        have fa_in : ∀ y ∈ fa, y ∈ fp1 := fun y m => pm.symm.subset (List.mem_append_left _ m)
        have gb_in : ∀ y ∈ gb, y ∈ fp1 := fun y m => pm.symm.subset (List.mem_append_right _ m)
        -- what stands of the frame behind the callee
        have back : ∀ {F' H' : Hp} {ρ' : DEnv} {d1 : D} {fp' fv : List Addr}, ρ' = [some d1] → Rel b.K ((s0 :: leaves n).take 1) F' H' ρ' (((v :: vs).take 1).map some) fp' → (fp' ++ fv).Nodup → Ext F1 H1 fa F' H' (fp' ++ fv) →
            ∃ gp, Rel b.K b.ks F' H' (ρ1.set i (some d1)) σ gp ∧ (gp ++ fv).Nodup ∧ Ext F1 H1 fp1 F' H' (gp ++ fv) := by
          intro F' H' ρ' d1 fp' fv eρ r' nd x
          subst eρ
          have r0 := r'.sl
          rw [List.take_succ_cons, List.take_zero, List.take_succ_cons, List.take_zero] at r0
          cases r0 with
          | @som _ _ _ _ _ _ fz fz' oz rz =>
            cases rz
            have keepg : ∀ y ∈ gb, ∃ o, H1 y = some o ∧ y ∉ fa ∧ H' y = some o ∧ F' y = F1 y := fun y m => by
              obtain ⟨_, o, ho⟩ := sl.own y m
              have nf : y ∉ fa := fun q => nda.2.2 y q y m rfl
              obtain ⟨k1, k2⟩ := x.keep y o ho nf
              exact ⟨o, ho, nf, k1, k2⟩
            have sF : Same F1 F' := fun a o z => by
              have n1 : a ∉ fa := fun q => by rw [(o1.own a q).1] at z; cases z
              rw [(x.keep a o (r1.sub _ _ z) n1).2]; exact z
            have sl2 : RelL b.K F' H' b.ks (ρ1.set i none) σ gb := sl.frame sF fun a m => by
              obtain ⟨o, q1, _, q2, q3⟩ := keepg a m
              exact ⟨q3.trans (sl.own a m).1, q2.trans q1.symm⟩
            obtain ⟨gp, r2, p2⟩ := RelL.join oz sl2 hk s1
            have fzin : ∀ y ∈ fz, y ∈ fz ++ [] ++ fv := fun y m => List.mem_append_left _ (List.mem_append_left _ m)
            have ndz := List.nodup_append.mp nd
            have apart : ∀ y ∈ fz ++ [] ++ fv, ∀ z ∈ gb, y ≠ z := fun y m z m2 q => by
              subst q
              obtain ⟨o, q1, q2, _, _⟩ := keepg y m2
              rcases x.fr y m with w | w
              · exact q2 w
              · rw [w] at q1; cases q1
            refine ⟨gp, ⟨r'.sub, p2.nodup_iff.mpr (List.nodup_append.mpr ⟨?_, nda.2.1, fun y m z m2 => apart y (fzin y m) z m2⟩), r2⟩, ?_, ⟨fun a o z n1 => x.keep a o z fun q => n1 (fa_in a q), fun y m => ?_⟩⟩
            · have := ndz.1; rwa [List.append_nil] at this
            · refine List.nodup_append.mpr ⟨p2.nodup_iff.mpr (List.nodup_append.mpr ⟨by have := ndz.1; rwa [List.append_nil] at this, nda.2.1, fun y m z m2 => apart y (fzin y m) z m2⟩), ndz.2.1, fun y m z m2 q => ?_⟩
              subst q
              rcases List.mem_append.mp (p2.subset m) with w | w
              · exact ndz.2.2 y (by rw [List.append_nil]; exact w) y m2 rfl
              · exact apart y (List.mem_append_right _ m2) y w rfl
            · rcases List.mem_append.mp m with m | m
              · rcases List.mem_append.mp (p2.subset m) with w | w
                · rcases x.fr y (fzin y w) with q | q
                  · exact .inl (fa_in y q)
                  · exact .inr q
                · exact .inl (gb_in y w)
              · rcases x.fr y (List.mem_append_right _ m) with q | q
                · exact .inl (fa_in y q)
                · exact .inr q
        cases eg : g (d0 :: ds) with
        | no => rw [eg] at h2; exact h2
        | ok d ρ' =>
          rw [eg] at h2
          intro v' F' H' fp' fv r' nd x o
          split at h2
          · rename_i d' d1 q
            cases q
            obtain ⟨gp, q1, q2, q3⟩ := back rfl r' nd x
            exact h2 v' F' H' gp fv q1 q2 q3 o
          · rename_i q
            cases q
          · exact (show False from h2).elim
        | ex y ρ' =>
          rw [eg] at h2
          intro cls dx F' H' fp' r' x ex
          split at h2
          · rename_i q
            cases q
          · rename_i e' d1 q
            cases q
            obtain ⟨gp, q1, _, q3⟩ := back (fv := []) rfl r' (by rw [List.append_nil]; exact r'.nd) (by rw [List.append_nil]; exact x)
            rw [List.append_nil] at q3
            show W cls dx σ H'
            rw [← hW]
            exact h2 cls dx F' H' gp q1 q3 ex
          · exact (show False from h2).elim
      · rw [if_neg hn] at h1; exact (show False from h1).elim
/-- a def of the top, to be called by its name -/
structure Cl (X : Cx) (CX : CXT) (k : Nat) (x : Str) (n : Nat) (psh : List Sh) (fx : Nat) (rsh : Sh) (g : List D → R D) : Prop where
  ex : ∃ f fd ps, FnG X.prog X.w X.K X.mg X.base CX k f fd ps (spV X.K X.mg n psh fx rsh g) ∧ X.mg x = some (.ref f) ∧ PySem.W.keepIn X.K (.ref f) = true ∧ Binds X.K fd ps []
theorem ev_call0 (c : Cl X CX k x n (leaves n) 0 rsh g) (hx : ∀ σ, PassesAt CX X σ (WE W σ)) (hr : Room k X.A) (hgd : X.A.guards = some []) (ha : EA X ks W (e :: es) t ma) (hg : Gl X x := by rfl) (hdb : (x == ("__debug__" : Str)) = false := by decide)
    (he : starEach (e :: es) X.env = (false, eval e X.env) :: starEach es X.env := by rfl) (hpl : (backTo pos (starEach es X.env)).any (·.1) = false := by rfl) : EV X ks W (.Call (.Name x p) (e :: es) [] pos) rsh (tCallS (spV X.K X.mg n (leaves n) 0 rsh g) (WE W) t) (mCall0 n g ma) := by
  obtain ⟨f, fd, ps, G, hm, hk, hb⟩ := c.ex
  exact ⟨pe_callG G hr hgd hg hm hk hb hx ha.pe hdb he hpl, snd_call0 (b := bd X ks W) rfl ha.sd⟩
theorem ev_call1 {y : Str} {p' : Pos} (i : Nat) (c : Cl X CX k x (n + 1) (s0 :: leaves n) 1 rsh g) (hx : ∀ σ, PassesAt CX X σ (WE W σ)) (hr : Room k X.A) (hgd : X.A.guards = some []) (ha : EA X ks W es t ma) (hky : ks[i]? = some s0 := by rfl) (hN : X.N[i]? = some y := by rfl)
    (hv : Vis X.env.scope y := by first | exact Or.inl rfl | exact Or.inr (Or.inl rfl) | exact Or.inr (Or.inr rfl)) (hd : (y == ("__debug__" : Str)) = false := by decide) (hcd : (y == ("__classdict__" : Str)) = false := by decide) (hg : Gl X x := by rfl) (hdb : (x == ("__debug__" : Str)) = false := by decide)
    (he : starEach (.Name y p' :: es) X.env = (false, eval (.Name y p') X.env) :: starEach es X.env := by rfl) (hpl : (backTo pos (starEach es X.env)).any (·.1) = false := by rfl) :
    EV X ks W (.Call (.Name x p) (.Name y p' :: es) [] pos) rsh (tCallS (spV X.K X.mg (n + 1) (s0 :: leaves n) 1 rsh g) (WE W) (tCons (tVar i) t)) (mCall1 i n g ma) := by
  obtain ⟨f, fd, ps, G, hm, hk, hb⟩ := c.ex
  exact ⟨pe_callG G hr hgd hg hm hk hb hx (pa_cons (pe_var hN hv hd hcd) ha.pe he) hdb he hpl, snd_call1 (b := bd X ks W) rfl hky ha.sd⟩
theorem px0 : ∀ σ, PassesAt CX0 X σ (WE W σ) := fun _ _ _ _ _ _ _ h => h.elim
end
end VL
/-! V11: the built-ins. -/
namespace VL
open PySem PySem.Spec L2

def asInts : List D → Option (List Int)
  | [] => some []
  | .int i :: r => (asInts r).bind fun t => some (i :: t)
  | _ => none
def asBls : List D → Option (List Bool)
  | [] => some []
  | .bl i :: r => (asBls r).bind fun t => some (i :: t)
  | _ => none
def asStrs : List D → Option (List Str)
  | [] => some []
  | .str i :: r => (asStrs r).bind fun t => some (i :: t)
  | _ => none
/-- the members of a list, of a tuple -/
def D.mem : D → Option (List D)
  | .lst ds => some ds
  | .tup ds => some ds
  | .key ks => some (ks.map keyD)
  | .scr ns => some (ns.map .int)
  | _ => none
def D.memL : D → Option (List D)
  | .lst ds => some ds
  | .scr ns => some (ns.map .int)
  | _ => none
section
variable {K : PySem.W.Frag} {F H : Hp}
theorem reps_asInts : ∀ {vs : List V} {ds : List D} {ns : List Int}, Reps K F vs ds → asInts ds = some ns → vs = ns.map V.int
  | _, _, _, .nil, e => by cases e; rfl
  | _, d :: ds, ns, .cons h t, e => by
    cases d with
    | int i =>
      unfold asInts at e
      cases q : asInts ds with
      | none => rw [q] at e; cases e
      | some r => rw [q] at e; cases e; cases h; rw [reps_asInts t q]; rfl
    | _ => cases e
theorem reps_asBls : ∀ {vs : List V} {ds : List D} {ns : List Bool}, Reps K F vs ds → asBls ds = some ns → vs = ns.map V.bl
  | _, _, _, .nil, e => by cases e; rfl
  | _, d :: ds, ns, .cons h t, e => by
    cases d with
    | bl i =>
      unfold asBls at e
      cases q : asBls ds with
      | none => rw [q] at e; cases e
      | some r => rw [q] at e; cases e; cases h; rw [reps_asBls t q]; rfl
    | _ => cases e
theorem reps_asStrs : ∀ {vs : List V} {ds : List D} {ns : List Str}, Reps K F vs ds → asStrs ds = some ns → vs = ns.map V.str ∧ ∀ x ∈ ns, asc x = true
  | _, _, _, .nil, e => by cases e; exact ⟨rfl, fun _ m => by simp at m⟩
  | _, d :: ds, ns, .cons h t, e => by
    cases d with
    | str i =>
      unfold asStrs at e
      cases q : asStrs ds with
      | none => rw [q] at e; cases e
      | some r =>
        rw [q] at e; cases e; cases h
        rename_i ha
        obtain ⟨h1, h2⟩ := reps_asStrs t q
        refine ⟨by rw [h1]; rfl, fun x m => ?_⟩
        rcases List.mem_cons.mp m with rfl | m
        · exact ha
        · exact h2 x m
    | _ => cases e
theorem Vw.memE (sm : Sub F H) {v : V} {d : D} {ds : List D} (h : Vw K F H v d) (e : d.mem = some ds) : ∃ p vs, v = .ref p ∧ (SqL K H p vs ∨ SqT K H p vs) ∧ Reps K F vs ds := by
  cases d with
  | lst _ => cases e; obtain ⟨p, vs, e1, e2, r⟩ := h.lstE sm; exact ⟨p, vs, e1, .inl (.inl (.inl e2)), r⟩
  | tup _ => cases e; obtain ⟨p, vs, e1, e2, e3, r⟩ := h.tupR sm; exact ⟨p, vs, e1, .inr e2, r⟩
  | key _ => cases e; obtain ⟨p, e1, e2, r⟩ := h.keyR sm; exact ⟨p, _, e1, .inr e2, r⟩
  | scr ns => cases e; obtain ⟨p, e1, e2⟩ := h.scrE sm; exact ⟨p, _, e1, .inl e2, reps_ints ns⟩
  | _ => cases e
theorem Vw.memLE (sm : Sub F H) {v : V} {d : D} {ds : List D} (h : Vw K F H v d) (e : d.memL = some ds) : ∃ p vs, v = .ref p ∧ SqL K H p vs ∧ Reps K F vs ds := by
  cases d with
  | lst _ => cases e; obtain ⟨p, vs, e1, e2, r⟩ := h.lstE sm; exact ⟨p, vs, e1, (.inl (.inl e2)), r⟩
  | scr ns => cases e; obtain ⟨p, e1, e2⟩ := h.scrE sm; exact ⟨p, _, e1, e2, reps_ints ns⟩
  | _ => cases e
theorem pr1 {R0 : D → V → Prop} {d : D} {xs : List V} (h : Paired R0 [d] xs) : ∃ x, xs = [x] ∧ R0 d x := by
  cases h with | cons a t => cases t; exact ⟨_, rfl, a⟩
theorem pr2 {R0 : D → V → Prop} {d e : D} {xs : List V} (h : Paired R0 [d, e] xs) : ∃ x y, xs = [x, y] ∧ R0 d x ∧ R0 e y := by
  cases h with | cons a t => cases t with | cons b t => cases t; exact ⟨_, _, rfl, a, b⟩
/-- f of one thing -/
def one (f : D → Option D) : List D → Option D
  | [d] => f d
  | _ => none
def two (f : D → D → Option D) : List D → Option D
  | [d, e] => f d e
  | _ => none
theorem s_one {sh : Sh} {r : List V → Hp → VK → Prop} {f : D → Option D} (h : ∀ F H x d z Q, Sub F H → Vw K F H x d → f d = some z → OkV K sh F H Q z → r [x] H Q) : OpN K sh r (one f) := by
  intro F H xs ds z Q sm hp e ok
  match ds, hp, e with
  | [d], hp, e => obtain ⟨x, rfl, v⟩ := pr1 hp; exact h F H x d z Q sm v e ok
theorem s_two {sh : Sh} {r : List V → Hp → VK → Prop} {f : D → D → Option D} (h : ∀ F H x y d e z Q, Sub F H → Vw K F H x d → Vw K F H y e → f d e = some z → OkV K sh F H Q z → r [x, y] H Q) : OpN K sh r (two f) := by
  intro F H xs ds z Q sm hp e ok
  match ds, hp, e with
  | [d, g], hp, e => obtain ⟨x, y, rfl, v, w⟩ := pr2 hp; exact h F H x y d g z Q sm v w e ok

/-! ### len -/
def lenD : D → Option D
  | .str x => some (.int x.length)
  | .lst ds => some (.int ds.length)
  | .tup ds => some (.int ds.length)
  | .key ks => some (.int ks.length)
  | .scr ns => some (.int ns.length)
  | .dK kvs => some (.int kvs.length)
  | .dT kvs => some (.int kvs.length)
  | _ => none
theorem call_lenR {X : Cx} : CallR X (.builtin "len") (fun xs H Q => ∃ a kvs, xs = [V.ref a] ∧ Rd H a (.dK kvs) ∧ Q (.int kvs.length) H) := by
  intro pins s σ H xs us Q I r h
  obtain ⟨a, kvs, rfl, ha, q⟩ := h
  obtain ⟨u, rfl, ru⟩ := vals1 r
  cases ru
  exact d_len I ha fun t s' I' => ⟨.int kvs.length, H, I', ⟨t, rfl⟩, q⟩
theorem call_lenRT {X : Cx} : CallR X (.builtin "len") (fun xs H Q => ∃ a kvs, xs = [V.ref a] ∧ Rd H a (.dT kvs) ∧ Q (.int ((kvs.length : Nat) : Int)) H) := by
  intro pins s σ H xs us Q I r h
  obtain ⟨p, kvs, rfl, hp, q⟩ := h
  obtain ⟨u, rfl, rx⟩ := vals1 r
  obtain rfl : u = .ref p := rx
  obtain ⟨z, hd, ys, rel, dd⟩ := dt_rd I.hok hp
  have hl : kvs.length = ys.length := Paired.length rel
  refine call_len_dictH hd dd (by rw [← hl]; rw [sizeLine_eq] at z; omega) ?_
  rw [← hl]
  exact ⟨.int ((kvs.length : Nat) : Int), H, I.tok _, ⟨_, rfl⟩, q⟩
abbrev rLenU (K : PySem.W.Frag) : List V → Hp → VK → Prop := fun xs H Q => (∃ x n, xs = [x] ∧ LenV K x H n ∧ Q (.int n) H) ∨ (∃ a kvs, xs = [V.ref a] ∧ Rd H a (.dK kvs) ∧ Q (.int kvs.length) H) ∨ (∃ a kvs, xs = [V.ref a] ∧ Rd H a (.dT kvs) ∧ Q (.int ((kvs.length : Nat) : Int)) H)
theorem cr_len {X : Cx} : CallR X (.builtin "len") (rLenU X.K) := call_len.or (call_lenR.or call_lenRT)
theorem s_len : OpN K .leaf (rLenU K) (one lenD) := by
  refine s_one fun F H x d z Q sm h e ok => ?_
  unfold lenD at e
  split at e
  · cases e; obtain ⟨e1, e2⟩ := h.strE; subst e1; exact .inl ⟨_, _, rfl, ⟨asc_line e2, rfl⟩, ok.here sm (.int _)⟩
  · cases e; obtain ⟨p, vs, e1, e2, r⟩ := h.lstE sm; subst e1; exact .inl ⟨_, vs.length, rfl, .inl ⟨_, (.inl (.inl e2)), rfl⟩, by rw [r.length]; exact ok.here sm (.int _)⟩
  · cases e; obtain ⟨p, vs, e1, e2, e3, r⟩ := h.tupR sm; subst e1; exact .inl ⟨_, vs.length, rfl, .inr ⟨_, e2, rfl⟩, by rw [r.length]; exact ok.here sm (.int _)⟩
  · cases e; rename_i ks; obtain ⟨p, e1, e2, r⟩ := h.keyR sm; subst e1; exact .inl ⟨_, (ks.map kV).length, rfl, .inr ⟨_, e2, rfl⟩, by rw [List.length_map]; exact ok.here sm (.int _)⟩
  · cases e; rename_i ns; obtain ⟨p, e1, e2⟩ := h.scrE sm; subst e1; exact .inl ⟨_, (ns.map V.int).length, rfl, .inl ⟨_, e2, rfl⟩, by rw [List.length_map]; exact ok.here sm (.int _)⟩
  · cases e
    obtain ⟨p, kvs, e1, e2, e3, r⟩ := h.dKE sm; subst e1
    have hl := congrArg List.length e3
    rw [List.length_map, List.length_map] at hl
    exact .inr (.inl ⟨_, _, rfl, e2, by rw [hl]; exact ok.here sm (.int _)⟩)
  · cases e
    obtain ⟨p, kvs, e1, e2, e3, r⟩ := h.dTE sm; subst e1
    have hl := congrArg List.length e3
    rw [List.length_map, List.length_map] at hl
    exact .inr (.inr ⟨_, _, rfl, e2, by rw [hl]; exact ok.here sm (.int _)⟩)
  · cases e

/-! ### all, any, sum, min, max, int -/
def allD (d : D) : Option D := d.memL.bind fun ds => (asBls ds).bind fun bs => some (.bl (bs.all id))
def anyD (d : D) : Option D := d.memL.bind fun ds => (asBls ds).bind fun bs => some (.bl (bs.any id))
def sumD (d : D) : Option D := d.memL.bind fun ds => (asInts ds).bind fun bs => some (.int bs.sum)
def lowI : Int → List Int → Int
  | m, [] => m
  | m, x :: r => lowI (if x < m then x else m) r
def topI : Int → List Int → Int
  | m, [] => m
  | m, x :: r => topI (if m < x then x else m) r
theorem lowI_spec : ∀ (r : List Int) (m : Int), lowI m r ∈ m :: r ∧ ∀ y ∈ m :: r, lowI m r ≤ y
  | [], m => by simp [lowI]
  | x :: r, m => by
    obtain ⟨h1, h2⟩ := lowI_spec r (if x < m then x else m)
    unfold lowI
    refine ⟨?_, fun y hy => ?_⟩
    · rcases List.mem_cons.mp h1 with h | h
      · rw [h]; split <;> simp
      · exact List.mem_cons_of_mem _ (List.mem_cons_of_mem _ h)
    · have h3 := h2 _ List.mem_cons_self
      rcases List.mem_cons.mp hy with rfl | hy
      · split at h3 <;> rename_i c <;> simp only [c, if_true, if_false] <;> omega
      · rcases List.mem_cons.mp hy with rfl | hy
        · split at h3 <;> rename_i c <;> simp only [c, if_true, if_false] <;> omega
        · exact h2 _ (List.mem_cons_of_mem _ hy)
theorem topI_spec : ∀ (r : List Int) (m : Int), topI m r ∈ m :: r ∧ ∀ y ∈ m :: r, y ≤ topI m r
  | [], m => by simp [topI]
  | x :: r, m => by
    obtain ⟨h1, h2⟩ := topI_spec r (if m < x then x else m)
    unfold topI
    refine ⟨?_, fun y hy => ?_⟩
    · rcases List.mem_cons.mp h1 with h | h
      · rw [h]; split <;> simp
      · exact List.mem_cons_of_mem _ (List.mem_cons_of_mem _ h)
    · have h3 := h2 _ List.mem_cons_self
      rcases List.mem_cons.mp hy with rfl | hy
      · split at h3 <;> rename_i c <;> simp only [c, if_true, if_false] <;> omega
      · rcases List.mem_cons.mp hy with rfl | hy
        · split at h3 <;> rename_i c <;> simp only [c, if_true, if_false] <;> omega
        · exact h2 _ (List.mem_cons_of_mem _ hy)
def minD (d : D) : Option D := d.memL.bind fun ds => (asInts ds).bind fun bs => match bs with | [] => none | m :: r => some (.int (lowI m r))
def maxD (d : D) : Option D := d.memL.bind fun ds => (asInts ds).bind fun bs => match bs with | [] => none | m :: r => some (.int (topI m r))
theorem memLb {α : Type} {d : D} {g : List D → Option α} {z : α} (h : d.memL.bind g = some z) : ∃ ds, d.memL = some ds ∧ g ds = some z := by
  cases e : d.memL with
  | none => rw [e] at h; cases h
  | some ds => rw [e] at h; exact ⟨ds, rfl, h⟩
theorem optb {α β : Type} {o : Option α} {g : α → Option β} {z : β} (h : o.bind g = some z) : ∃ a, o = some a ∧ g a = some z := by
  cases o with
  | none => cases h
  | some a => exact ⟨a, rfl, h⟩
theorem s_all : OpN K .leaf (rAll K) (one allD) := by
  refine s_one fun F H x d z Q sm h e ok => ?_
  obtain ⟨ds, e1, e⟩ := memLb e
  obtain ⟨bs, e2, e⟩ := optb e
  cases e
  obtain ⟨p, vs, rfl, q, r⟩ := h.memLE sm e1
  have ev := reps_asBls r e2
  subst ev
  exact ⟨p, bs, rfl, q, ok.here sm (.bl _)⟩
theorem s_any : OpN K .leaf (rAny K) (one anyD) := by
  refine s_one fun F H x d z Q sm h e ok => ?_
  obtain ⟨ds, e1, e⟩ := memLb e
  obtain ⟨bs, e2, e⟩ := optb e
  cases e
  obtain ⟨p, vs, rfl, q, r⟩ := h.memLE sm e1
  have ev := reps_asBls r e2
  subst ev
  exact ⟨p, bs, rfl, q, ok.here sm (.bl _)⟩
theorem s_sum : OpN K .leaf (rSum K) (one sumD) := by
  refine s_one fun F H x d z Q sm h e ok => ?_
  obtain ⟨ds, e1, e⟩ := memLb e
  obtain ⟨bs, e2, e⟩ := optb e
  cases e
  obtain ⟨p, vs, rfl, q, r⟩ := h.memLE sm e1
  have ev := reps_asInts r e2
  subst ev
  exact ⟨p, bs, rfl, q, ok.here sm (.int _)⟩
theorem s_min : OpN K .leaf (rMin K) (one minD) := by
  refine s_one fun F H x d z Q sm h e ok => ?_
  obtain ⟨ds, e1, e⟩ := memLb e
  obtain ⟨bs, e2, e⟩ := optb e
  obtain ⟨p, vs, rfl, q, r⟩ := h.memLE sm e1
  have ev := reps_asInts r e2
  subst ev
  cases bs with
  | nil => cases e
  | cons m t =>
    cases e
    refine ⟨p, m :: t, rfl, q, Nat.zero_lt_succ _, fun k hk hl => ?_⟩
    obtain ⟨s1, s2⟩ := lowI_spec t m
    have : k = lowI m t := Int.le_antisymm (hl _ s1) (s2 _ hk)
    subst this
    exact ok.here sm (.int _)
theorem s_max : OpN K .leaf (rMax K) (one maxD) := by
  refine s_one fun F H x d z Q sm h e ok => ?_
  obtain ⟨ds, e1, e⟩ := memLb e
  obtain ⟨bs, e2, e⟩ := optb e
  obtain ⟨p, vs, rfl, q, r⟩ := h.memLE sm e1
  have ev := reps_asInts r e2
  subst ev
  cases bs with
  | nil => cases e
  | cons m t =>
    cases e
    refine ⟨p, m :: t, rfl, q, Nat.zero_lt_succ _, fun k hk hl => ?_⟩
    obtain ⟨s1, s2⟩ := topI_spec t m
    have : k = topI m t := Int.le_antisymm (s2 _ hk) (hl _ s1)
    subst this
    exact ok.here sm (.int _)
def min2D := i2 fun i j => some (.int (if j < i then j else i))
def max2D := i2 fun i j => some (.int (if j > i then j else i))
theorem s_min2 : OpN K .leaf (fun xs H Q => ∃ i j, xs = [.int i, .int j] ∧ Q (.int (if j < i then j else i)) H) (two min2D) := by
  refine s_two fun F H x y d e z Q sm h k q ok => ?_
  obtain ⟨i, j, rfl, rfl, q⟩ := i2E q
  cases q
  exact ⟨i, j, by rw [h.intE, k.intE], ok.here sm (.int _)⟩
theorem s_max2 : OpN K .leaf (fun xs H Q => ∃ i j, xs = [.int i, .int j] ∧ Q (.int (if j > i then j else i)) H) (two max2D) := by
  refine s_two fun F H x y d e z Q sm h k q ok => ?_
  obtain ⟨i, j, rfl, rfl, q⟩ := i2E q
  cases q
  exact ⟨i, j, by rw [h.intE, k.intE], ok.here sm (.int _)⟩
def intD : D → Option D
  | .int i => some (.int i)
  | .bl b => some (.int (if b then 1 else 0))
  | _ => none
theorem s_int : OpN K .leaf (fun xs H Q => (∃ i, xs = [.int i] ∧ Q (.int i) H) ∨ ∃ k, xs = [.bl k] ∧ Q (.int (if k then 1 else 0)) H) (one intD) := by
  refine s_one fun F H x d z Q sm h e ok => ?_
  cases d with
  | int i => cases e; rw [h.intE]; exact .inl ⟨i, rfl, ok.here sm (.int _)⟩
  | bl i => cases e; rw [h.blE]; exact .inr ⟨i, rfl, ok.here sm (.int _)⟩
  | _ => cases e

/-! ### list, tuple -/
def listD (d : D) : Option D := d.mem.bind fun ds => some (.lst ds)
theorem s_listOf : OpN K (.lst .leaf) (fun xs H Q => ∃ p ys, xs = [.ref p] ∧ (SqL K H p ys ∨ SqT K H p ys) ∧ ∀ l, H l = none → Q (.ref l) (upd H l (.lst ys))) (one listD) := by
  refine s_one fun F H x d z Q sm h e ok => ?_
  obtain ⟨ds, e1, e⟩ := optb e
  cases e
  obtain ⟨p, vs, rfl, q, r⟩ := h.memE sm e1
  exact ⟨p, vs, rfl, q, fun l n => ok.newL sm r n⟩
def D.memT : D → Option (List D)
  | .key _ => none
  | d => d.mem
@[simp] theorem memT_lst (ds : List D) : (D.lst ds).memT = some ds := rfl
@[simp] theorem memT_tup (ds : List D) : (D.tup ds).memT = some ds := rfl
def tupleD (d : D) : Option D := d.memT.bind fun ds => some (.tup ds)
theorem s_tupleOf : Op1 K .leaf (kTupF K) tupleD := by
  intro F H x d z Q sm h e ok
  obtain ⟨ds, e1, e⟩ := optb e
  cases e
  cases d with
  | tup es =>
    cases e1
    obtain ⟨p, vs, e1, e2, e3, r⟩ := h.tupR sm
    subst e1
    exact .inr ⟨p, vs, rfl, e2, ok.here sm (.tup e3 r)⟩
  | lst es =>
    cases e1
    obtain ⟨p, vs, e1, e2, r⟩ := h.lstE sm
    subst e1
    exact .inl ⟨p, vs, rfl, .inl (.inl e2), fun l us n => ok.newT sm r n⟩
  | scr ns =>
    cases e1
    obtain ⟨p, e1, e2⟩ := h.scrE sm
    subst e1
    exact .inl ⟨p, _, rfl, e2, fun l us n => ok.newT sm (reps_ints ns) n⟩
  | _ => cases e1
end
section
variable {X : Cx} {ks : List Sh} {W : WX} {a : Expr} {ta : TE} {p pos : Pos}
theorem ev_tupleOf {mo : MO} (ha : EO X ks W a ta mo) (hm : X.mg "tuple" = none) (hg : Gl X "tuple" := by rfl) (na : starEach [a] X.env = (false, eval a X.env) :: starEach [] X.env := by rfl) :
    EV X ks W (.Call (.Name "tuple" p) [a] [] pos) .leaf (tThen ta (kTupF X.K)) (mOp1 tupleD mo) := ⟨pe_tupleOfF hg hm ha.pe na, snd_op1 (b := bd X ks W) s_tupleOf ha.sd⟩
end

/-! ### isinstance -/
def D.cls : D → Option String
  | .non => some "NoneType" | .bl _ => some "bool" | .int _ => some "int" | .str _ => some "str"
  | .tup _ => some "tuple" | .key _ => some "tuple" | .lst _ => some "list" | .dK _ => some "dict" | .scr _ => some "list"
  | _ => none
def isiB (n : String) (d : D) : Option D := d.cls.bind fun c => (kitB c n).bind fun b => some (.bl b)
def isiD : D → D → Option D
  | d, .ty n => isiB n d
  | _, _ => none
theorem Vw.tyx {K : PySem.W.Frag} {F H : Hp} (sm : Sub F H) {v : V} {d : D} {c : String} (h : Vw K F H v d) (e : d.cls = some c) : TyX K H v (.type c) := by
  cases d with
  | non => cases e; rw [h.nonE]; exact .base .non
  | bl _ => cases e; rw [h.blE]; exact .base (.bl _)
  | int _ => cases e; rw [h.intE]; exact .base (.int _)
  | str _ => cases e; rw [h.strE.1]; exact .base (.str _)
  | tup _ => cases e; obtain ⟨p, vs, e1, _, ⟨us, e2⟩, _⟩ := h.tupR sm; rw [e1]; exact .fTuple (sm _ _ e2)
  | key _ => cases e; obtain ⟨p, e1, e2, _⟩ := h.keyE; rw [e1]; exact .base (.tup (sm _ _ e2))
  | lst _ => cases e; obtain ⟨p, vs, e1, e2, _⟩ := h.lstE sm; rw [e1]; exact .base (.lst e2)
  | dK _ =>
    cases e; obtain ⟨p, vs, e1, e2, _⟩ := h.dKE sm; rw [e1]
    rcases e2 with e2 | ⟨o, e2⟩
    · exact .base (.dK e2)
    · exact .fDict e2
  | scr ns =>
    cases e
    obtain ⟨p, e1, e2⟩ := h.scrE sm
    rw [e1]
    rcases e2 with (e2 | ⟨o, e2⟩) | ⟨o, its, n, e2, e3, _⟩
    · exact .base (.lst e2)
    · exact .base (.frz e2)
    · exact .kList e2 e3
  | _ => cases e
theorem s_isi {K : PySem.W.Frag} : OpN K .leaf (rIsi K) (two isiD) := by
  refine s_two fun F H x y d e z Q sm h k q ok => ?_
  unfold isiD at q
  split at q
  · rename_i n
    obtain ⟨c, e1, q⟩ := optb q
    obtain ⟨b, e2, q⟩ := optb q
    cases q
    have hy : y = .ty n := by cases k with | rep r => cases r; rfl
    subst hy
    exact ⟨x, _, _, _, b, rfl, .ty _, h.tyx sm e1, kit_ty e2, ok.here sm (.bl _)⟩
  · cases q
section
variable {X : Cx} {ks : List Sh} {W : WX} {pos : Pos}
theorem ev_ty {x : Str} {n : String} (hm : X.mg x = none) (hv : bootBuiltins x = some (.type n)) (hg : Gl X x := by rfl) (hn : x ≠ "__name__" := by decide) (hd : (x == ("__debug__" : Str)) = false := by decide) : EV X ks W (.Name x pos) .leaf (tC (.ty n)) (mC (.ty n)) :=
  ⟨pe_bltn hg hm hv rfl hn hd, snd_c fun _ => .ty _⟩
end

/-! ### methods of texts -/
section
variable {K : PySem.W.Frag}
def sj (ys : List Str) (n : Nat) : Nat := (ys.map (·.length)).sum + ys.length * n
def joinD : D → D → Option D
  | .str a, d => d.mem.bind fun ds => (asStrs ds).bind fun ys => if sj ys a.length ≤ 16777216 then some (.str (Txt.join a ys)) else none
  | _, _ => none
theorem join_asc {a : Str} (ha : asc a = true) : ∀ (ys : List Str), (∀ y ∈ ys, asc y = true) → (∀ c ∈ (Str.join a ys).cps.toList, c < 128) ∧ (Str.join a ys).length ≤ sj ys a.length
  | [], _ => ⟨fun c hc => by simp [Str.join, Str.empty] at hc, by show 0 ≤ _; omega⟩
  | [x], h => by
    have hx := ascE (h x List.mem_cons_self)
    refine ⟨fun c hc => hx.1 c hc, ?_⟩
    show x.length ≤ _
    unfold sj
    simp
  | x :: y :: r, h => by
    have hx := ascE (h x List.mem_cons_self)
    obtain ⟨h1, h2⟩ := join_asc ha (y :: r) fun z m => h z (List.mem_cons_of_mem _ m)
    have e : Str.join a (x :: y :: r) = x ++ a ++ Str.join a (y :: r) := rfl
    have e3 : (Str.join a (x :: y :: r)).cps.toList = x.cps.toList ++ a.cps.toList ++ (Str.join a (y :: r)).cps.toList := by
      rw [e]
      show (x.cps ++ a.cps ++ (Str.join a (y :: r)).cps).toList = _
      rw [Array.toList_append, Array.toList_append]
    refine ⟨fun c hc => ?_, ?_⟩
    · rw [e3] at hc
      rcases List.mem_append.mp hc with hc | hc
      · rcases List.mem_append.mp hc with hc | hc
        · exact hx.1 c hc
        · exact (ascE ha).1 c hc
      · exact h1 c hc
    · have : (Str.join a (x :: y :: r)).length = x.length + a.length + (Str.join a (y :: r)).length := by
        show (Str.join a (x :: y :: r)).cps.size = x.cps.size + a.cps.size + (Str.join a (y :: r)).cps.size
        rw [← Array.length_toList, e3, List.length_append, List.length_append, Array.length_toList, Array.length_toList, Array.length_toList]
      rw [this]
      unfold sj at h2 ⊢
      rw [List.map_cons, List.sum_cons, List.length_cons, Nat.succ_mul]
      rw [List.length_cons] at h2 ⊢
      omega
theorem s_join : Op2 K .leaf (fun x y H Q => ∃ a p, ∃ ys : List Str, x = .str a ∧ [y] = [V.ref p] ∧ (SqL K H p (ys.map V.str) ∨ SqT K H p (ys.map V.str)) ∧
    (ys.map (·.length)).sum + ys.length * a.length ≤ 16777216 ∧ Q (.str (Txt.join a ys)) H) joinD := by
  intro F H x y d e z Q sm h k q ok
  cases d with
  | str a =>
    have q : (e.mem.bind fun ds => (asStrs ds).bind fun ys => if sj ys a.length ≤ 16777216 then some (.str (Txt.join a ys)) else none) = some z := q
    obtain ⟨ds, e1, q⟩ := optb q
    obtain ⟨ys, e2, q⟩ := optb q
    split at q
    · rename_i hl
      cases q
      obtain ⟨h1, h2⟩ := h.strE
      obtain ⟨p, vs, rfl, sq, r⟩ := k.memE sm e1
      obtain ⟨ev, hy⟩ := reps_asStrs r e2
      subst ev
      obtain ⟨j1, j2⟩ := join_asc h2 ys hy
      refine ⟨a, p, ys, h1, rfl, sq, hl, ?_⟩
      rw [TL.join_eq] at ok ⊢
      exact ok.here sm (.str _ (asc_mk j1 (Nat.le_trans j2 hl)))
    · cases q
  | _ => cases q
def findD : D → D → Option D
  | .str a, .str b => some (.int (Txt.find a b))
  | _, _ => none
theorem s_find : Op2 K .leaf (fun x y H Q => ∃ a b, x = .str a ∧ [y] = [V.str b] ∧ Q (.int (Txt.find a b)) H) findD := by
  intro F H x y d e z Q sm h k q ok
  unfold findD at q
  split at q
  · cases q
    rw [h.strE.1, k.strE.1]
    exact ⟨_, _, rfl, rfl, ok.here sm (.int _)⟩
  · cases q
def upperD : D → Option D
  | .str a => if a.length ≤ 5000000 then some (.str ⟨a.cps.map PyProof.Rows.up1⟩) else none
  | _ => none
theorem s_upper : Op1 K .leaf (fun x H Q => (∃ z, x = .str z) ∧ ∃ a, x = .str a ∧ ([] : List V) = [] ∧ a.length ≤ 5592405 ∧ Q (.str (Txt.upper a)) H) upperD := by
  intro F H x d z Q sm h q ok
  cases d with
  | str a =>
    have q : (if a.length ≤ 5000000 then some (.str ⟨a.cps.map PyProof.Rows.up1⟩) else none) = some z := q
    split at q
    · rename_i hl
      cases q
      obtain ⟨h1, h2⟩ := h.strE
      obtain ⟨c1, c2⟩ := ascE h2
      refine ⟨⟨a, h1⟩, a, h1, rfl, Nat.le_trans hl (by decide), ?_⟩
      rw [PyProof.Rows.upper_ascii c1]
      refine ok.here sm (.str _ (asc_mk (fun c m => ?_) ?_))
      · rw [Array.toList_map] at m
        obtain ⟨b, hb, rfl⟩ := List.mem_map.mp m
        have := c1 b hb
        unfold PyProof.Rows.up1
        split <;> omega
      · show (a.cps.map _).size ≤ _
        rw [Array.size_map]
        exact c2
    · cases q
  | _ => cases q
end

/-! ### repr -/
def keyW : Key → Nat
  | .inl _ => 2000
  | .inr x => 10 * x.length + 2
mutual
/-- no shorter than the text that is shown -/
def D.wt : D → Nat
  | .non => 4 | .bl _ => 5 | .int _ => 2000 | .str x => 10 * x.length + 2
  | .tup xs => wtL xs + 2 * xs.length + 3 | .lst xs => wtL xs + 2 * xs.length + 3
  | .scr ns => 2002 * ns.length + 3
  | .key ks => (ks.map keyW).sum + 2 * ks.length + 3
  | _ => 0
def wtL : List D → Nat
  | [] => 0
  | d :: ds => d.wt + wtL ds
end
def reprOk (d : D) : Bool := d.py && d.toPy.showable && decide (d.toPy.depth ≤ 60) && decide (d.wt ≤ 16777216)
def reprD (d : D) : Option D := if reprOk d = true then some (.rp d.toPy) else none
theorem strl_of (s : String) : ((s : Str)).length = s.length := PyProof.Rows.ofString_len s
theorem int_shown {i : Int} (h : i.natAbs.log2 < 1920) : (PyData.shown (.int i)).length ≤ 2000 := by
  have e := PySem.int_text_length_le (k := 1920) (by decide) h
  show (Str.ofString (toString i)).length ≤ 2000
  rw [PyProof.Rows.ofString_len]
  omega
theorem listText_le (ts : List Str) : (listText ts).length ≤ (ts.map (·.length)).sum + 2 * ts.length + 3 := by
  have := PySem.listText_len_le ts
  omega
theorem ints_shown : ∀ {ns : List Int}, PyData.showableAll (ns.map PyData.int) = true → ((PyData.shownAll (ns.map PyData.int)).map (·.length)).sum ≤ 2000 * ns.length ∧ (PyData.shownAll (ns.map PyData.int)).length = ns.length
  | [], _ => ⟨Nat.le_refl _, rfl⟩
  | n :: ns, h => by
    rw [List.map_cons, PyData.showableAll, Bool.and_eq_true, PyData.showable, decide_eq_true_eq] at h
    obtain ⟨h1, h2⟩ := ints_shown h.2
    have h3 := int_shown h.1
    rw [List.map_cons, PyData.shownAll, List.map_cons, List.sum_cons, List.length_cons, List.length_cons, h2]
    exact ⟨by omega, rfl⟩
theorem keys_shown : ∀ {ks : List Key}, ks.all ascK = true → PyData.showableAll (ks.map keyP) = true → ((PyData.shownAll (ks.map keyP)).map (·.length)).sum ≤ (ks.map keyW).sum ∧ (PyData.shownAll (ks.map keyP)).length = ks.length
  | [], _, _ => ⟨Nat.le_refl _, rfl⟩
  | k :: ks, a, h => by
    rw [List.all_cons, Bool.and_eq_true] at a
    rw [List.map_cons, PyData.showableAll, Bool.and_eq_true] at h
    obtain ⟨h1, h2⟩ := keys_shown a.2 h.2
    rw [List.map_cons, PyData.shownAll, List.map_cons, List.sum_cons, List.map_cons, List.sum_cons, List.length_cons, List.length_cons, h2]
    have h3 : (keyP k).shown.length ≤ keyW k := by
      cases k with
      | inl i =>
        have h' := h.1
        rw [keyP, PyData.showable, decide_eq_true_eq] at h'
        exact int_shown h'
      | inr x =>
        rw [keyP, PyData.shown]
        exact PySem.StrLaws.reprText_len x fun c m => Nat.lt_of_lt_of_le ((ascE a.1).1 c m) (by decide)
    exact ⟨by omega, rfl⟩
mutual
theorem Rep.wt {K : PySem.W.Frag} {F : Hp} : ∀ {v : V} {d : D}, Rep K F v d → d.py = true → d.toPy.showable = true → d.toPy.shown.length ≤ d.wt
  | _, _, .non, _, _ => by rw [D.toPy, D.wt]; decide
  | _, _, .bl b, _, _ => by rw [D.toPy, D.wt]; cases b <;> decide
  | _, _, .int i, _, h => by rw [D.toPy, PyData.showable, decide_eq_true_eq] at h; rw [D.toPy, D.wt]; exact int_shown h
  | _, _, .str x a, _, _ => by
    rw [D.toPy, D.wt, PyData.shown]
    exact PySem.StrLaws.reprText_len x fun c m => Nat.lt_of_lt_of_le ((ascE a).1 c m) (by decide)
  | _, _, .tup _ r, q, h => by
    rw [D.py] at q
    rw [D.toPy, PyData.showable] at h
    obtain ⟨h1, h2⟩ := Reps.wt r q h
    rw [D.toPy, D.wt, PyData.shown]
    refine Nat.le_trans (PySem.tupleText_len_le _) ?_
    rw [h2]
    omega
  | _, _, .lst _ r, q, h => by
    rw [D.py] at q
    rw [D.toPy, PyData.showable] at h
    obtain ⟨h1, h2⟩ := Reps.wt r q h
    rw [D.toPy, D.wt, PyData.shown]
    refine Nat.le_trans (listText_le _) ?_
    rw [h2]
    omega
  | _, _, .dK _ _ _, q, _ => by rw [D.py] at q; cases q
  | _, _, .dT _ _ _, q, _ => by rw [D.py] at q; cases q
  | _, _, .scr _, _, h => by
    rw [D.toPy, PyData.showable] at h
    obtain ⟨h1, h2⟩ := ints_shown h
    rw [D.toPy, D.wt, PyData.shown]
    refine Nat.le_trans (listText_le _) ?_
    rw [h2]
    omega
  | _, _, .rp _, q, _ => by rw [D.py] at q; cases q
  | _, _, .ty _, q, _ => by rw [D.py] at q; cases q
  | _, _, .key _ a, _, h => by
    rw [D.toPy, PyData.showable] at h
    obtain ⟨h1, h2⟩ := keys_shown a h
    rw [D.toPy, D.wt, PyData.shown]
    refine Nat.le_trans (PySem.tupleText_len_le _) ?_
    rw [h2]
    omega
theorem Reps.wt {K : PySem.W.Frag} {F : Hp} : ∀ {vs : List V} {ds : List D}, Reps K F vs ds → pyL ds = true → PyData.showableAll (toPyL ds) = true → ((PyData.shownAll (toPyL ds)).map (·.length)).sum ≤ wtL ds ∧ (PyData.shownAll (toPyL ds)).length = ds.length
  | _, _, .nil, _, _ => by rw [toPyL, PyData.shownAll, wtL]; exact ⟨Nat.le_refl _, rfl⟩
  | _, _, .cons r t, q, h => by
    rw [pyL, Bool.and_eq_true] at q
    rw [toPyL, PyData.showableAll, Bool.and_eq_true] at h
    have h1 := Rep.wt r q.1 h.1
    obtain ⟨h2, h3⟩ := Reps.wt t q.2 h.2
    rw [toPyL, PyData.shownAll, wtL, List.map_cons, List.sum_cons, List.length_cons, List.length_cons, h3]
    exact ⟨by omega, rfl⟩
end
abbrev rReprU (K : PySem.W.Frag) : List V → Hp → VK → Prop := fun xs H Q => ∃ v p, xs = [v] ∧ Dp K H v p ∧ p.canLay0 = true ∧ p.showable = true ∧ p.depth ≤ 60 ∧ p.shown.length ≤ sizeLine ∧ Q (.str p.shown) H
theorem cr_repr {X : Cx} (hg : X.A.guards = some []) (hu : X.A.units + 65 < cLine) : CallR X (.builtin "repr") (rReprU X.K) := by
  intro pins s σ H xs us Q I r h
  obtain ⟨v, p, rfl, dp, lay, sh, dep, len, q⟩ := h
  obtain ⟨u, rfl, ru⟩ := vals1 r
  cases dp with
  | non => cases ru; exact PySem.P.repr_of_none ⟨.str _, H, I.tok _, ⟨_, rfl⟩, q⟩
  | bl b => cases ru; exact PySem.P.repr_of_bool ⟨.str _, H, I.tok _, ⟨_, rfl⟩, q⟩
  | int i => obtain ⟨t, rfl⟩ := ru; exact PySem.P.repr_of_int (by rw [PyData.showable, decide_eq_true_eq] at sh; exact sh) ⟨.str _, H, I.tok _, ⟨_, rfl⟩, q⟩
  | str x => obtain ⟨t, rfl⟩ := ru; exact PySem.P.repr_of_str ⟨.str _, H, I.tok _, ⟨_, rfl⟩, q⟩ len
  | lst a b =>
    obtain ⟨as, rd⟩ := Dp.reads I _ _ _ (.lst a b) ru
    cases ru
    exact repr_of_reads' rd sh (PyData.noDict_hsm (PyData.hasDict_of_canLay _ lay)) hg (by omega) (fun _ _ e => e) (fun h' u tk hk => ⟨.str _, H, I.kept hk, ⟨_, rfl⟩, q⟩) len
  | tup a b =>
    obtain ⟨as, rd⟩ := Dp.reads I _ _ _ (.tup a b) ru
    cases ru
    exact repr_of_reads' rd sh (PyData.noDict_hsm (PyData.hasDict_of_canLay _ lay)) hg (by omega) (fun _ _ e => e) (fun h' u tk hk => ⟨.str _, H, I.kept hk, ⟨_, rfl⟩, q⟩) len
theorem s_repr {K : PySem.W.Frag} : OpN K .leaf (rReprU K) (one reprD) := by
  refine s_one fun F H x d z Q sm h e ok => ?_
  unfold reprD at e
  split at e
  · rename_i c
    cases e
    unfold reprOk at c
    rw [Bool.and_eq_true, Bool.and_eq_true, Bool.and_eq_true, decide_eq_true_eq, decide_eq_true_eq] at c
    obtain ⟨⟨⟨c1, c2⟩, c3⟩, c4⟩ := c
    obtain ⟨dp, lay⟩ := (h.whole sm (py_nod c1)).dp c1
    have wt := (h.whole sm (py_nod c1)).wt c1 c2
    exact ⟨x, _, rfl, dp, lay, c2, c3, line_ok (Nat.le_trans wt c4), ok.here sm (.rp _)⟩
  · cases e
end VL
/-! V12: dict displays. -/
namespace VL
open PySem PySem.Spec L2

def OkPs (b : Bd) (F H : Hp) (fp : List Addr) (σ : St) (Q : List (V × V) → Hp → Prop) : R (List (Key × D)) → Prop
  | .no => False
  | .ok ds ρ' => ∀ (kvs : List (Key × V)) F' H' fp', Rel b.K b.ks F' H' ρ' σ fp' → Ext F H fp F' H' fp' → kvs.map Prod.fst = ds.map Prod.fst → Reps b.K F' (kvs.map Prod.snd) (ds.map Prod.snd) → Q (kvs.map fun kv => (kV kv.1, kv.2)) H'
  | .ex e ρ' => OkX b F H fp σ e ρ'
theorem OkPs.ext {b : Bd} {F H F1 H1 : Hp} {fp f1 : List Addr} {σ : St} {Q : List (V × V) → Hp → Prop} (a : Ext F H fp F1 H1 f1) : ∀ {r : R (List (Key × D))}, OkPs b F H fp σ Q r → OkPs b F1 H1 f1 σ Q r
  | .no, h => h
  | .ok d ρ', h => fun v F' H' fp' r x => h v F' H' fp' r (a.trans x)
  | .ex e ρ', h => OkX.ext a h
structure EPs (X : Cx) (ks : List Sh) (W : WX) (pos : Pos) (keys : List (Option Expr)) (values : List Expr) (trs : List (TE × TE)) (m : DEnv → R (List (Key × D))) : Prop where
  pe : PPs X pos keys values trs
  sd : ∀ ρ σ F H fp Q, Rel X.K ks F H ρ σ fp → OkPs (bd X ks W) F H fp σ Q (m ρ) → tPairs trs σ H Q
section
variable {X : Cx} {ks : List Sh} {W : WX} {pos : Pos} {keys : List (Option Expr)} {values : List Expr} {trs : List (TE × TE)} {m : DEnv → R (List (Key × D))} {k v : Expr} {tk tv : TE} {mk mv : ME}
def mPNil : DEnv → R (List (Key × D)) := fun ρ => .ok [] ρ
def mPCons (mk mv : ME) (mr : DEnv → R (List (Key × D))) : DEnv → R (List (Key × D)) := fun ρ => (mk ρ).bind fun k ρ1 => (mv ρ1).bind fun v ρ2 => (mr ρ2).bind fun r ρ3 => match keyK k with
  | some q => .ok ((q, v) :: r) ρ3
  | none => .no
theorem eps_nil : EPs X ks W pos [] [] [] mPNil := ⟨pps_nil, fun ρ σ F H fp Q r h => h [] F H fp r .refl rfl .nil⟩
theorem eps_cons (hk : EV X ks W k .leaf tk mk) (hv : EV X ks W v .leaf tv mv) (hr : EPs X ks W pos keys values trs m) : EPs X ks W pos (some k :: keys) (v :: values) ((tk, tv) :: trs) (mPCons mk mv m) := by
  refine ⟨pps_cons hk.pe hv.pe hr.pe, fun ρ σ F H fp Q r hok => ?_⟩
  unfold mPCons at hok
  refine hk.sd.go r (Ok := OkPs (bd X ks W) F H fp σ Q) hok (fun z => z) (fun _ _ z => z) fun kd ρ1 x F1 H1 fp1 h1 r1 x1 p1 => ?_
  refine hv.sd.go r1 (Ok := OkPs (bd X ks W) F1 H1 fp1 σ Q) (h1.ext x1) (fun z => z) (fun _ _ z => z) fun vd ρ2 y F2 H2 fp2 h2 r2 x2 p2 => ?_
  refine hr.sd ρ2 σ F2 H2 fp2 _ r2 ?_
  have h3 := h2.ext x2
  cases em : m ρ2 with
  | no => rw [em] at h3; exact h3
  | ex e ρ3 => rw [em] at h3; exact h3
  | ok ds ρ3 =>
    rw [em] at h3
    intro kvs F' H' fp' r' x' ek rk
    cases q : keyK kd with
    | none => rw [R.bind_ok, q] at h3; exact (show False from h3).elim
    | some kk =>
      rw [R.bind_ok, q] at h3
      have e1 := keyKE (F := F1) (H := F1) (.rep p1) q
      subst e1
      exact h3 ((kk, y) :: kvs) F' H' fp' r' x' (by rw [List.map_cons, List.map_cons, ek]) (.cons (p2.mono (r2.same x')) rk)
def putAll (ds more : List (Key × D)) : List (Key × D) := more.foldl (fun acc kv => put acc kv.1 kv.2) ds
theorem merge_rel {K : PySem.W.Frag} {F : Hp} : ∀ {more : List (Key × V)} {mds : List (Key × D)} {kvs : List (Key × V)} {ds : List (Key × D)}, more.map Prod.fst = mds.map Prod.fst → Reps K F (more.map Prod.snd) (mds.map Prod.snd) →
    kvs.map Prod.fst = ds.map Prod.fst → Reps K F (kvs.map Prod.snd) (ds.map Prod.snd) → (mergeK kvs more).map Prod.fst = (putAll ds mds).map Prod.fst ∧ Reps K F ((mergeK kvs more).map Prod.snd) ((putAll ds mds).map Prod.snd)
  | [], [], _, _, _, _, e, r => ⟨e, r⟩
  | [], _ :: _, _, _, h, _, _, _ => by cases h
  | _ :: _, [], _, _, h, _, _, _ => by cases h
  | x :: more, y :: mds, kvs, ds, h, q, e, r => by
    have e1 : x.1 = y.1 := (List.cons.inj h).1
    cases q with
    | cons q1 q2 =>
      have h2 := merge_rel (kvs := putK kvs x.1 x.2) (ds := put ds y.1 y.2) (List.cons.inj h).2 q2 (by rw [e1]; exact put_keys _ _ _ e) (by rw [e1]; exact put_reps _ q1 e r)
      exact h2
def mDisp (m : DEnv → R (List (Key × D))) : ME := fun ρ => (m ρ).bind fun ds ρ1 => if ds.length ≤ 15 then .ok (.dK (putAll [] ds)) ρ1 else .no
theorem ev_disp (h : EPs X ks W pos keys values trs m) (hall : keys.all (·.isSome) = true := by rfl) (hl : keys.length = values.length := by rfl) (h0 : keys ≠ [] := by intro z; cases z) (h15 : keys.length ≤ 15 := by decide) : EV X ks W (.Dict keys values pos) (.dic .leaf) (tDisp trs) (mDisp m) := by
  refine ⟨pe_disp h.pe hall hl h0 h15, fun ρ σ F H fp Q r hok p np => ?_⟩
  have nF : F p = none := by
    cases e : F p with
    | none => rfl
    | some y => have q := r.sub _ _ e; rw [np] at q; cases q
  obtain ⟨r1, nd1, x1⟩ := (upd_alcH (o := .dK []) r.sub np).rel (fv := [p]) r (fun y m => by simp at m; subst m; exact np) (by simp)
  have x1' : Ext F H fp F (upd H p (.dK [])) fp := x1.sub fun y m => List.mem_append_left _ m
  have pfp : p ∉ fp := fun m => by obtain ⟨_, o, ho⟩ := r.sl.own p m; rw [np] at ho; cases ho
  refine h.sd ρ σ F _ fp _ r1 ?_
  unfold mDisp at hok
  cases em : m ρ with
  | no => rw [em] at hok; exact (show False from hok).elim
  | ex e ρ3 => rw [em] at hok; exact OkX.ext x1' (show OkX (bd X ks W) F H fp σ e ρ3 from hok)
  | ok ds ρ3 =>
    rw [em, R.bind_ok] at hok
    refine fun kvs F2 H2 fp2 r2 x2 ek rk => ?_
    by_cases hl : ds.length ≤ 15
    · rw [if_pos hl] at hok
      obtain ⟨k1, k2⟩ := x2.keep p _ upd_same pfp
      have lk : kvs.length = ds.length := by have := congrArg List.length ek; simpa using this
      refine ⟨k1, kvs, rfl, by omega, ?_⟩
      obtain ⟨m1, m2⟩ := merge_rel (kvs := []) (ds := []) ek rk rfl .nil
      have pn : p ∉ fp2 := fun m => by
        rcases x2.fr p m with z | z
        · exact pfp z
        · rw [upd_same] at z; cases z
      have nF2 : F2 p = none := k2.trans nF
      have xx := x1'.trans x2
      refine hok (.ref p) F2 _ fp2 [p] ⟨sub_updH r2.sub nF2 (by intro _ z; cases z), r2.nd, r2.sl.frame (fun a o e => e) fun a m => ⟨(r2.sl.own a m).1, ?_⟩⟩ ?_ ⟨fun a o e n => ?_, fun a m => ?_⟩ (.dK nF2 upd_same m1 (ORs.ofReps m2))
      · have : a ≠ p := fun z => pn (z ▸ m)
        rw [upd_ne this]
      · refine List.nodup_append.mpr ⟨r2.nd, by simp, fun a m y m' z => ?_⟩
        simp at m'
        subst m' z
        exact pn m
      · have hne : a ≠ p := fun z => by rw [z, np] at e; cases e
        obtain ⟨q1, q2⟩ := xx.keep a o e n
        rw [upd_ne hne]
        exact ⟨q1, q2⟩
      · rcases List.mem_append.mp m with m | m
        · exact xx.fr a m
        · simp at m; subst m; exact .inr np
    · rw [if_neg hl] at hok; exact (show False from hok).elim
theorem ev_dnewK : EV X ks W (.Dict [] [] pos) (.dic .leaf) tDNewK (mC (.dK [])) := by
  refine ⟨pe_dnewK, fun ρ σ F H fp Q r hok p np => ?_⟩
  have a := upd_alcH (o := .dK []) r.sub np
  have nF : F p = none := by
    cases e : F p with
    | none => rfl
    | some y => have q := r.sub _ _ e; rw [np] at q; cases q
  have hok : OkE (bd X ks W) (.dic .leaf) F H fp σ Q (.ok (.dK []) ρ) := hok
  exact (hok.done r) _ _ _ [p] a (fun x m => by simp at m; subst m; exact np) (by simp) (.dK nF upd_same rfl .nil)
theorem ev_dnewT : EV X ks W (.Dict [] [] pos) (.dic .leaf) tDNewT (mC (.dT [])) := by
  refine ⟨pe_dnewT, fun ρ σ F H fp Q r hok p np => ?_⟩
  have a := upd_alcH (o := .dT []) r.sub np
  have nF : F p = none := by
    cases e : F p with
    | none => rfl
    | some y => have q := r.sub _ _ e; rw [np] at q; cases q
  have hok : OkE (bd X ks W) (.dic .leaf) F H fp σ Q (.ok (.dT []) ρ) := hok
  exact (hok.done r) _ _ _ [p] a (fun x m => by simp at m; subst m; exact np) (by simp) (.dT nF upd_same rfl .nil)
end
end VL
/-! V13: the law's door. -/
namespace VL
open PySem PySem.Spec L2
open PyProof.Rows (IntsAre AllBare IntsAre AllBare)


abbrev scrOb (us : List Value) : Obj := { cls := .type "list", data := .seq us.toArray }
/-- at the door nothing is followed but the script, and it only where the module has not made it -/
def door (K : PySem.W.Frag) (z : Addr) (us : List Value) (ms : List Int) : Hp := fun y => if (K.lookup z).isNone = true ∧ y = z then some (.frz (scrOb us) (.lst (ms.map V.int))) else none
section
variable {P : Program} {w : World} {K : PySem.W.Frag} {z : Addr} {us : List Value} {ms : List Int} {h : Heap}
theorem door_some {y : Addr} {u : HO} (e : door K z us ms y = some u) : K.lookup z = none ∧ y = z ∧ u = .frz (scrOb us) (.lst (ms.map V.int)) := by
  unfold door at e
  split at e
  · rename_i q
    cases e
    exact ⟨Option.isNone_iff_eq_none.mp q.1, q.2, rfl⟩
  · cases e
theorem door_else {y : Addr} (n : y ≠ z) : door K z us ms y = none := if_neg fun q => n q.2
theorem vals_of_ints : ∀ {l : List Value} {i : List Int}, IntsAre l i → Vals (i.map V.int) l
  | _, _, .nil => .nil
  | _, _, .cons _ _ r => .cons ⟨_, rfl⟩ (vals_of_ints r)
theorem door_seq (hK : K.In h) (hz : h.get? z = some (scrOb us)) (hi : IntsAre us ms) (hl : ms.length ≤ sizeLine) : SqL K (door K z us ms) z (ms.map V.int) := by
  have sz : us.length = ms.length := hi.length
  cases q : K.lookup z with
  | none => exact .inl (.inr ⟨scrOb us, if_pos ⟨by rw [q]; rfl, rfl⟩⟩)
  | some o =>
    have e := (hK z o q).symm.trans hz
    cases e
    exact .inr ⟨_, us.toArray, _, q, rfl, rfl, rfl, by rw [List.size_toArray, sz]; exact hl, by simpa using vals_of_ints hi⟩
theorem door_ok (hz : h.get? z = some (scrOb us)) (hi : IntsAre us ms) (hl : ms.length ≤ sizeLine) : HOk P w (door K z us ms) h := fun y u e => by
  obtain ⟨_, rfl, rfl⟩ := door_some e
  exact ⟨hz, by rw [List.length_map]; exact hl, us, _, vals_of_ints hi, hz⟩
/-- what the module has made, and each namespace, stands untold -/
theorem door_in (hK : K.In h) : K.In (hidT h (door K z us ms)) := fun y o e => hidT_get (hK y o e) (by
  cases q : door K z us ms y with
  | none => rfl
  | some u => obtain ⟨k, rfl, _⟩ := door_some q; rw [k] at e; cases e)
theorem door_ns (hz : h.get? z = some (scrOb us)) {y : Addr} {m : Str → Option Value} (n : h.Ns y m) : (hidT h (door K z us ms)).Ns y m := by
  obtain ⟨o, es, ep, e, d, r⟩ := n
  refine ⟨o, es, ep, hidT_get e (door_else fun q => ?_), d, r⟩
  rw [q, hz] at e
  cases e
  cases (show Data.seq us.toArray _ = Data.dict es ep from d)
/-- the call of the law's def, from its promise -/
theorem door_call {mg mb : Str → Option Value} {CX : CXT} {k : Nat} {fa : Addr} {fd : FuncData} {x : Str} {sp : Sp} {t : Shared} (hK : K.In t.heap) (hg : t.heap.Ns mainGlobals mg) (hb : t.heap.Ns builtinsNs mb) (hbb : ∀ y : Str, y ≠ "__name__" → mb y = bootBuiltins y)
    (hm : t.heap.NoLimit) (hgens : t.gens = #[]) (hz : t.heap.get? z = some (scrOb us)) (hi : IntsAre us ms) (hl : ms.length ≤ sizeLine) (hr : Room k callerA)
    (G : ∀ b : Heap, K.In b → b.Ns mainGlobals mg → FnG P w K mg b CX k fa fd [x] sp) (hbind : ∀ (s : Shared) (u : Value), BindsTo s fd ⟨[u], []⟩ [(x, u)])
    (hsp : ∀ H : Hp, SqL K H z (ms.map V.int) → sp [.ref z] H (fun v _ => v = .bl true) fun _ _ _ => False) (hCX : ∀ H e s', CX [] H t (fun _ _ _ => False) e s' → False) :
    codeAny (model P w) callerA (.call (.ref fa) ⟨[.ref z], []⟩) (fun r s' => r = .ok (.ret (.bool true)) ∧ OldK t.heap s'.heap ∧ s'.os = t.os ∧ AllBare s'.gens) t := by
  have e0 : Env0 P w K mg (hidT t.heap (door K z us ms)) callerA [] t (door K z us ms) :=
    { frames := rfl
      mod := ⟨door_in hK, door_ns hz hg, ⟨mb, door_ns hz hb, hbb⟩, let ⟨mc, q1, q2⟩ := hm; ⟨mc, door_ns hz q1, q2⟩⟩
      bs := fun _ _ e => of_hidT e
      bsz := Nat.le_of_eq (hidT_size _ _)
      funs := trivial
      frf := fun y m => absurd (show y ∈ ([] : List Addr) from m) (by simp)
      hok := door_ok hz hi hl
      bare := .of_eq hgens }
  have run := (G _ (door_in hK) (door_ns hz hg)).run callerA [] t (door K z us ms) ⟨[.ref z], []⟩ [.ref z] [.ref z] _ _ hr rfl e0 (hbind t (.ref z)) (.cons rfl .nil) (hsp _ (door_seq hK hz hi hl))
  refine codeAny_mono run fun r s' c => ?_
  match r, c with
  | .error e, c => exact (hCX _ e s' c).elim
  | .ok .next, c => exact False.elim c
  | .ok .brk, c => exact False.elim c
  | .ok .cont, c => exact False.elim c
  | .ok (.ret u), c =>
    obtain ⟨v, J, os, bare, un, okJ, ru, qv⟩ := c
    have qv : v = .bl true := qv
    subst qv
    cases (show u = Value.bool true from ru)
    refine ⟨rfl, OldK.of_keep fun y o e => ?_, os, bare⟩
    cases q : door K z us ms y with
    | none => exact un.keep y o e q (fun m => absurd (show y ∈ ([] : List Addr) from m) (by simp)) (by simp)
    | some u =>
      obtain ⟨_, rfl, rfl⟩ := door_some q
      rw [hz] at e
      cases e
      exact (okJ _ _ (un.frzs _ _ _ q)).1
end
/-- what a law's def must come to -/
theorem spV_law {K : PySem.W.Frag} {mg : Str → Option Value} {g : List D → R D} {H : Hp} {z : Addr} {ms : List Int} (hS : SqL K H z (ms.map V.int)) (hg : ∃ ρ, g [.scr ms] = .ok (.bl true) ρ) :
    spV K mg 1 [.leaf] 0 .leaf g [.ref z] H (fun v _ => v = .bl true) fun _ _ _ => False := by
  obtain ⟨ρ, e⟩ := hg
  refine ⟨rfl, H, [], [.scr ms], ⟨⟨fun _ _ e => e, fun _ _ e => e⟩, List.nodup_nil, RelL.som (f := []) (fp := []) (.leaf (.scr hS)) .nil⟩, ?_⟩
  rw [e]
  intro v F' H' fp' fv _ _ _ o
  obtain ⟨r, _⟩ := o.leafE
  cases r
  rfl
/-- the goal behind the top, from the law's promise -/
theorem walk_V {l : PySem.W.OpenLaw} {n k : Nat} {q : Program} {loose : List Str} {XP : (Str → Option Value) → Heap → Prop} {YP : World → Heap → Prop} {d : DefRec} {K : Params → PySem.W.Frag} {CX : World → CXT} {x : Str} {g : World → (Str → Option Value) → List D → R D}
    (hn : l.most = some n) (hn2 : n ≤ sizeLine) (hdf : d.params.defaults = []) (hr : Room k callerA) (hY : ∀ (w : World) (h : Heap), YP w h → (K w.params).In h)
    (F : ∀ (w : World) (mg : Str → Option Value) (fa : Addr) (h : Heap), (K w.params).In h → h.Ns mainGlobals mg → mg d.name = some (.ref fa) →
      ∃ fd : FuncData, (∀ (s : Shared) (u : Value), BindsTo s fd ⟨[u], []⟩ [(x, u)]) ∧ ∀ b : Heap, (K w.params).In b → b.Ns mainGlobals mg → FnG l.prog w (K w.params) mg b (CX w) k fa fd [x] (spV (K w.params) mg 1 [.leaf] 0 .leaf (g w mg)))
    (hg : ∀ (w : World) (mg : Str → Option Value) (ms : List Int), ms.length ≤ n → ∃ ρ, g w mg [.scr ms] = .ok (.bl true) ρ) (hCX : ∀ (w : World) (H : Hp) (s : Shared) (e : Value) (s' : Shared), CX w [] H s (fun _ _ _ => False) e s' → False) :
    PySem.W.WalkO q loose XP YP l.row.toRowW d [] (fun f vs => PySem.call f vs) := by
  refine Att.attach_call hn hdf fun w s₀ t mg mb fa o pm cd doc z us ms G Y ho hd hcd hmg hobj hints hlen hgens => ?_
  have KX := hY w _ Y
  obtain ⟨fd, hb, hF⟩ := F w mg fa _ KX G.T.g hmg
  exact door_call KX G.T.g G.T.b G.T.builtins G.T.nolimit hgens hobj hints (Nat.le_trans hlen hn2) hr hF hb (fun H hS => spV_law hS (hg w mg ms hlen)) fun H e s' => hCX w H t e s'
end VL
/-! V14: chains, a slot's thing handed on, more. -/
namespace VL
open PySem PySem.Spec L2

section
variable {X : Cx} {ks : List Sh} {W : WX} {a b c : Expr} {ta tb tc : TE} {m n o : ME} {pos : Pos} {r r' : R2} {f g : D → D → Option D}
/-- a op1 b op2 c -/
def mChain (f g : D → D → Option D) (m n o : ME) : ME := fun ρ => (m ρ).bind fun d ρ1 => (n ρ1).bind fun e ρ2 => match f d e with
  | some (.bl true) => (o ρ2).bind fun z ρ3 => R.of (g e z) ρ3
  | some (.bl false) => .ok (.bl false) ρ2
  | _ => .no
theorem snd_chain {B : Bd} (h1 : Op2 B.K .leaf r f) (h2 : Op2 B.K .leaf r' g) (ha : SndE B .leaf ta m) (hb : SndE B .leaf tb n) (hc : SndE B .leaf tc o) : SndE B .leaf (tChain r r' ta tb tc) (mChain f g m n o) := by
  intro ρ σ F H fp Q r0 hok
  unfold mChain at hok
  refine ha.go r0 (Ok := OkE B .leaf F H fp σ Q) hok (fun z => z) (fun _ _ z => z) fun d ρ1 x F1 H1 fp1 k1 r1 x1 p1 => ?_
  refine hb.go r1 (Ok := OkE B .leaf F1 H1 fp1 σ Q) (k1.ext x1) (fun z => z) (fun _ _ z => z) fun e ρ2 y F2 H2 fp2 k2 r2 x2 p2 => ?_
  have k3 := k2.ext x2
  have go : ∀ k : Bool, f d e = some (.bl k) → OkE B .leaf F2 H2 fp2 σ Q (if k = true then (o ρ2).bind fun z ρ3 => R.of (g e z) ρ3 else .ok (.bl false) ρ2) → r x y H2 (fun z H3 => ∃ k, z = .bl k ∧ (if k = true then tc σ H3 fun w' H4 => r' y w' H4 Q else Q (.bl false) H3)) := by
    intro k ef hk
    refine h1 F2 H2 x y d e _ _ r2.sub (.rep (p1.mono (r1.same x2))) (.rep p2) ef fun v F3 H3 fv al nf nd ov => ?_
    obtain ⟨rv, rfl⟩ := ov.leafE
    cases rv
    obtain ⟨r3, _, x3⟩ := al.rel r2 nf nd
    rw [List.append_nil] at x3
    refine ⟨k, rfl, ?_⟩
    have hk := hk.ext x3
    cases k with
    | false =>
      rw [if_neg Bool.false_ne_true] at hk ⊢
      exact (hk.done r3).here r3.sub (.bl _)
    | true =>
      rw [if_pos rfl] at hk ⊢
      refine hc.go r3 (Ok := OkE B .leaf F3 H3 fp2 σ Q) hk (fun z => z) (fun _ _ z => z) fun z ρ4 w' F4 H4 fp4 k4 r4 x4 p4 => ?_
      cases eg : g e z with
      | none => rw [eg] at k4; exact (show False from k4).elim
      | some q =>
        rw [eg] at k4
        exact h2 F4 H4 y w' e z q Q r4.sub (.rep ((p2.mono (al.same r2.sub)).mono (r3.same x4))) (.rep p4) eg ((k4.ext x4).done r4)
  cases ef : f d e with
  | none => rw [ef] at k3; exact (show False from k3).elim
  | some q =>
    rw [ef] at k3
    cases q with
    | bl k => cases k with
      | true => exact go true ef k3
      | false => exact go false ef k3
    | _ => exact (show False from k3).elim
theorem ev_chain {op op' : CmpOp} (ho : OpR X (compareOp op) r) (hs : Op2 X.K .leaf r f) (ho' : OpR X (compareOp op') r') (hs' : Op2 X.K .leaf r' g) (ha : EV X ks W a .leaf ta m) (hb : EV X ks W b .leaf tb n) (hc : EV X ks W c .leaf tc o)
    (hm : lastMarks [op, op'] [b, c] = false := by with_unfolding_all rfl) : EV X ks W (.Compare a [op, op'] [b, c] pos) .leaf (tChain r r' ta tb tc) (mChain f g m n o) :=
  ⟨pe_chain ho ho' ha.pe hb.pe hc.pe hm, snd_chain (B := bd X ks W) hs hs' ha.sd hb.sd hc.sd⟩
theorem et_chain {op op' : CmpOp} (ho : OpR X (compareOp op) r) (hs : Op2 X.K .leaf r f) (ho' : OpR X (compareOp op') r') (hs' : Op2 X.K .leaf r' g) (ha : EV X ks W a .leaf ta m) (hb : EV X ks W b .leaf tb n) (hc : EV X ks W c .leaf tc o)
    (hm : lastMarks [op, op'] [b, c] = false := by with_unfolding_all rfl) : ET X ks W (.Compare a [op, op'] [b, c] pos) (tTest (tChain r r' ta tb tc)) (mTest (mChain f g m n o)) :=
  ⟨pt_chain ho ho' ha.pe hb.pe hc.pe hm, snd_test (snd_chain (B := bd X ks W) hs hs' ha.sd hb.sd hc.sd)⟩

/-! ### a slot's owned thing handed on: the slot is not looked at again -/
def mMove (i : Nat) : ME := fun ρ => (R.of (own ρ i) ρ).bind fun d _ => .ok d (ρ.set i none)
theorem ev_move {x : Str} {sh : Sh} (i : Nat) (hk : ks[i]? = some sh := by rfl) (hN : X.N[i]? = some x := by rfl) (hv : Vis X.env.scope x := by first | exact Or.inl rfl | exact Or.inr (Or.inl rfl) | exact Or.inr (Or.inr rfl)) (hd : (x == ("__debug__" : Str)) = false := by decide)
    (hcd : (x == ("__classdict__" : Str)) = false := by decide) : EV X ks W (.Name x pos) sh (tVar i) (mMove i) := by
  refine ⟨pe_var hN hv hd hcd, fun ρ σ F H fp Q r h => ?_⟩
  unfold mMove at h
  cases e : own ρ i with
  | none => rw [e] at h; exact (show False from h).elim
  | some d =>
    rw [e] at h
    obtain ⟨v, f, g, s1, o1, sl, pm⟩ := r.sl.split hk (getE e)
    refine ⟨v, s1, ?_⟩
    have nd := pm.nodup_iff.mp r.nd
    have ndc := List.nodup_append.mp nd
    refine h v F H g f ⟨r.sub, ndc.2.1, sl⟩ (List.nodup_append.mpr ⟨ndc.2.1, ndc.1, fun y m z m2 q => ndc.2.2 z m2 y m q.symm⟩) ⟨fun y ob e n => ⟨e, rfl⟩, fun y m => .inl (pm.symm.subset ?_)⟩ o1
    rcases List.mem_append.mp m with m | m
    · exact List.mem_append_right _ m
    · exact List.mem_append_left _ m
end
theorem Cl.mono {X : Cx} {CX : CXT} {j k : Nat} {x : Str} {n : Nat} {psh : List Sh} {fx : Nat} {rsh : Sh} {g : List D → R D} (c : Cl X CX j x n psh fx rsh g) (h : j ≤ k) : Cl X CX k x n psh fx rsh g := by
  obtain ⟨f, fd, ps, G, hm, hk, hb⟩ := c.ex
  exact ⟨f, fd, ps, G.mono h, hm, hk, hb⟩
/-- .. without a context: P, w, K, mg, base -/
structure Clp (P : Program) (w : World) (K : PySem.W.Frag) (mg : Str → Option Value) (base : Heap) (CX : CXT) (k : Nat) (x : Str) (n : Nat) (psh : List Sh) (fx : Nat) (rsh : Sh) (g : List D → R D) : Prop where
  ex : ∃ f fd ps, FnG P w K mg base CX k f fd ps (spV K mg n psh fx rsh g) ∧ mg x = some (.ref f) ∧ PySem.W.keepIn K (.ref f) = true ∧ Binds K fd ps []
theorem Clp.cl {P : Program} {w : World} {K : PySem.W.Frag} {mg : Str → Option Value} {base : Heap} {CX : CXT} {j k : Nat} {x : Str} {n : Nat} {psh : List Sh} {fx : Nat} {rsh : Sh} {g : List D → R D} (c : Clp P w K mg base CX j x n psh fx rsh g) (h : j ≤ k)
    {X : Cx} (h1 : X.prog = P) (h2 : X.w = w) (h3 : X.K = K) (h4 : X.mg = mg) (h5 : X.base = base) : Cl X CX k x n psh fx rsh g := by
  subst h1 h2 h3 h4 h5
  obtain ⟨f, fd, ps, G, hm, hk, hb⟩ := c.ex
  exact ⟨f, fd, ps, G.mono h, hm, hk, hb⟩
theorem hu65 {A : Around} {k : Nat} (r : Room k A) : A.units + 65 < cLine := by have := r.un; omega
theorem hu64 {A : Around} {k : Nat} (r : Room k A) : A.units + 64 < cLine := by have := r.un; omega
theorem hu1 {A : Around} {k : Nat} (r : Room k A) : A.units + 1 < cLine := by have := r.un; omega
/-- the context of a def's body -/
structure InDef (P : Program) (w : World) (K : PySem.W.Frag) (mg : Str → Option Value) (base : Heap) (N : List Str) (k : Nat) (X : Cx) : Prop where
  p : X.prog = P
  w : X.w = w
  K : X.K = K
  mg : X.mg = mg
  b : X.base = base
  N : X.N = N
  c : X.calm = true
  fn : X.fn = fun _ => true
  r : Room k X.A
  g : X.A.guards = some []
end VL
/-! V15: names for mirrors; small rules for the printed proofs. -/
namespace VL
open PySem PySem.Spec L2

def mV (m : ME) : MO := fun ρ => (m ρ).bind fun d ρ1 => .ok (.v d) ρ1
def mS (i : Nat) : MO := fun ρ => (R.of ((ρ[i]?).bind id) ρ).bind fun _ ρ1 => .ok (.s i) ρ1
def mLs (m : ME) : MA := fun ρ => (m ρ).bind asL
def mTs (m : ME) : MA := fun ρ => (m ρ).bind asT
def mSs (m : ME) : MA := fun ρ => (m ρ).bind asS
def mR1 (m : MA) : MA := fun ρ => (m ρ).bind mRng1
def mR2 (m : MA) : MA := fun ρ => (m ρ).bind mRng2
def mLoop (k : D → DEnv → Option DEnv) (mb : MS) (ma : MA) : MS := fun ρ => (ma ρ).bind fun ds ρ1 => mFor k mb ds ρ1
def mM1 (f : D → D → Option D) (m : ME) (mp : MO) : ME := fun ρ => (m ρ).bind fun d ρ1 => (match d with | .str x => (mp ρ1).bind fun o ρ2 => R.of ((o.get ρ2).bind fun e => f (.str x) e) ρ2 | _ => .no)
def nnx (m : MS) : Prop := ∀ ρ ρ', m ρ ≠ .ok .nx ρ'
theorem nnx_ret (m : ME) : nnx (mRet m) := fun ρ ρ' h => by
  unfold mRet at h
  cases e : m ρ with
  | no => rw [e] at h; cases h
  | ex x ρ1 => rw [e] at h; cases h
  | ok d ρ1 => rw [e] at h; cases h
theorem nnx_seq {m n : MS} (h : nnx n) : nnx (mSeq m n) := fun ρ ρ' e => by
  unfold mSeq at e
  cases em : m ρ with
  | no => rw [em] at e; cases e
  | ex x ρ1 => rw [em] at e; cases e
  | ok f ρ1 =>
    rw [em] at e
    cases f with
    | rt d => cases e
    | nx => exact h _ _ e
theorem nnx_if {c : MT} {m n : MS} (h : nnx m) (h' : nnx n) : nnx (mIfS c m n) := fun ρ ρ' e => by
  unfold mIfS at e
  cases em : c ρ with
  | no => rw [em] at e; cases e
  | ex x ρ1 => rw [em] at e; cases e
  | ok k ρ1 =>
    rw [em] at e
    cases k with
    | true => exact h _ _ e
    | false => exact h' _ _ e
theorem hk1 {ks : List Sh} {i : Nat} (h : ks[i]? = some .leaf) : ∀ v ∈ [i], ks[v]? = some .leaf := fun v m => by
  cases List.mem_singleton.mp m; exact h
theorem hk2 {ks : List Sh} {i j : Nat} (h : ks[i]? = some .leaf) (h' : ks[j]? = some .leaf) : ∀ v ∈ [i, j], ks[v]? = some .leaf := fun v m => by
  rcases List.mem_cons.mp m with rfl | m
  · exact h
  · cases List.mem_singleton.mp m; exact h'
theorem hq_join : ∀ d e z, joinD d e = some z → ∃ x, d = .str x := fun d e z h => by
  cases d with
  | str x => exact ⟨x, rfl⟩
  | _ => cases h
theorem hq_find : ∀ d e z, findD d e = some z → ∃ x, d = .str x := fun d e z h => by
  cases d with
  | str x => exact ⟨x, rfl⟩
  | _ => cases h
theorem clp_of {P : Program} {w : World} {K : PySem.W.Frag} {mg : Str → Option Value} {base : Heap} {CX : CXT} {k n : Nat} {f : Addr} {fd : FuncData} {ps : List Str} {psh : List Sh} {fx : Nat} {rsh : Sh} {g : List D → R D} {x : Str}
    (G : FnG P w K mg base CX k f fd ps (spV K mg n psh fx rsh g)) (hm : mg x = some (.ref f)) (hk : PySem.W.keepIn K (.ref f) = true) (hb : Binds K fd ps []) : Clp P w K mg base CX k x n psh fx rsh g := ⟨f, fd, ps, G, hm, hk, hb⟩
end VL
namespace VL
open PySem PySem.Spec L2
/-! ### the rules with the module's part named (within a comprehension's block it must not hang on the block) -/
section
variable {X : Cx} (K : PySem.W.Frag) (hK : X.K = K)
include hK
theorem k_eq (hu : X.A.units + 65 < cLine) : OpR X (compareOp .Eq) (rEqU K) := hK ▸ op_eqU hu
theorem k_ne (hu : X.A.units + 65 < cLine) : OpR X (compareOp .NotEq) (rNeU K) := hK ▸ op_neU hu
theorem k_in (hu : X.A.units + 64 < cLine) : OpR X (compareOp .In) (rInU K false) := hK ▸ op_inU hu
theorem k_nin (hu : X.A.units + 64 < cLine) : OpR X (compareOp .NotIn) (rInU K true) := hK ▸ op_ninU hu
theorem k_add : OpR X (binaryOp .Add) (rAddA K) := hK ▸ op_addA
theorem k_mul : OpR X (binaryOp .Mult) (rMulA K) := hK ▸ op_mulA
theorem k_ix (hu : X.A.units + 1 < cLine) : IxR X (rIxA K) := hK ▸ ix_all hu
theorem k_sl : SlR X (rSlU K) := hK ▸ sl_all
theorem k_slL : SlR X (rSlL K) := hK ▸ sl_list
theorem k_len : CallR X (.builtin "len") (rLenU K) := hK ▸ cr_len
theorem k_all (hc : X.calm = true) : CallR X (.builtin "all") (rAll K) := hK ▸ cr_all hc
theorem k_any (hc : X.calm = true) : CallR X (.builtin "any") (rAny K) := hK ▸ cr_any hc
theorem k_sum (hc : X.calm = true) : CallR X (.builtin "sum") (rSum K) := hK ▸ cr_sum hc
theorem k_min (hc : X.calm = true) : CallR X (.builtin "min") (rMin K) := hK ▸ cr_min hc
theorem k_max (hc : X.calm = true) : CallR X (.builtin "max") (rMax K) := hK ▸ cr_max hc
theorem k_repr (hg : X.A.guards = some []) (hu : X.A.units + 65 < cLine) : CallR X (.builtin "repr") (rReprU K) := hK ▸ cr_repr hg hu
theorem k_isi : CallR X (.builtin "isinstance") (rIsi K) := hK ▸ call_isi
abbrev rListOf (K : PySem.W.Frag) : List V → Hp → VK → Prop := fun xs H Q => ∃ p ys, xs = [.ref p] ∧ (SqL K H p ys ∨ SqT K H p ys) ∧ ∀ l, H l = none → Q (.ref l) (upd H l (.lst ys))
theorem k_listOf : CallR X (.type "list") (rListOf K) := hK ▸ call_list_of
abbrev rJoin (K : PySem.W.Frag) : V → List V → Hp → VK → Prop := fun x xs H Q => ∃ a p, ∃ ys : List Str, x = .str a ∧ xs = [.ref p] ∧ (SqL K H p (ys.map V.str) ∨ SqT K H p (ys.map V.str)) ∧ (ys.map (·.length)).sum + ys.length * a.length ≤ 16777216 ∧ Q (.str (Txt.join a ys)) H
theorem k_join : MtR X "str.join" (rJoin K) := hK ▸ mt_join
end
section
variable {X : Cx} {ks : List Sh} {W : WX} {CX : CXT} {k n : Nat} {rsh s0 : Sh} {g : List D → R D} {x : Str} {p pos : Pos} {e a : Expr} {es : List Expr} {t : TA} {ma : MA} {ta te : TE} {me : ME} {tg : Expr} (K : PySem.W.Frag) (hK : X.K = K)
include hK
theorem kv_tupleOf {mo : MO} (ha : EO X ks W a ta mo) (hm : X.mg "tuple" = none) (hg : Gl X "tuple" := by rfl) (na : starEach [a] X.env = (false, eval a X.env) :: starEach [] X.env := by rfl) :
    EV X ks W (.Call (.Name "tuple" p) [a] [] pos) .leaf (tThen ta (kTupF K)) (mOp1 tupleD mo) := by subst hK; exact ev_tupleOf ha hm hg na
theorem kv_list (h : EV X ks W e .leaf te me) : IV X ks W tg e (iList K te) (mLs me) := by subst hK; exact iv_list h
theorem kv_tup (h : EV X ks W e .leaf te me) : IV X ks W tg e (iTup K te) (mTs me) := by subst hK; exact iv_tup h
theorem kv_gtup {T : St → St → Prop} {ts : List Expr} {gs : TGs} {n : Nat} {j : Nat} {m : List D → DEnv → Option DEnv} (hc : X.calm = true) (h : GVs X ks T ts gs m) (hn : (assignEach ts X.env).length = n := by rfl) (hst : (assignEach ts X.env).findIdx? (·.1) = none := by rfl) :
    GV X ks T (.Tuple ts j pos) (gTup K n gs) (kTup' n m) := by subst hK; exact gv_tup hc h hn hst
theorem kv_call0 (mg : Str → Option Value) (hmg : X.mg = mg) (c : Cl X CX k x n (leaves n) 0 rsh g) (hx : ∀ σ, PassesAt CX X σ (WE W σ)) (hr : Room k X.A) (hgd : X.A.guards = some []) (ha : EA X ks W (e :: es) t ma) (hg : Gl X x := by rfl) (hdb : (x == ("__debug__" : Str)) = false := by decide)
    (he : starEach (e :: es) X.env = (false, eval e X.env) :: starEach es X.env := by rfl) (hpl : (backTo pos (starEach es X.env)).any (·.1) = false := by rfl) : EV X ks W (.Call (.Name x p) (e :: es) [] pos) rsh (tCallS (spV K mg n (leaves n) 0 rsh g) (WE W) t) (mCall0 n g ma) := by
  subst hK hmg; exact ev_call0 c hx hr hgd ha hg hdb he hpl
theorem kv_call1 {y : Str} {p' : Pos} (mg : Str → Option Value) (hmg : X.mg = mg) (i : Nat) (c : Cl X CX k x (n + 1) (s0 :: leaves n) 1 rsh g) (hx : ∀ σ, PassesAt CX X σ (WE W σ)) (hr : Room k X.A) (hgd : X.A.guards = some []) (ha : EA X ks W es t ma) (hky : ks[i]? = some s0 := by rfl) (hN : X.N[i]? = some y := by rfl)
    (hv : Vis X.env.scope y := by first | exact Or.inl rfl | exact Or.inr (Or.inl rfl) | exact Or.inr (Or.inr rfl)) (hd : (y == ("__debug__" : Str)) = false := by decide) (hcd : (y == ("__classdict__" : Str)) = false := by decide) (hg : Gl X x := by rfl) (hdb : (x == ("__debug__" : Str)) = false := by decide)
    (he : starEach (.Name y p' :: es) X.env = (false, eval (.Name y p') X.env) :: starEach es X.env := by rfl) (hpl : (backTo pos (starEach es X.env)).any (·.1) = false := by rfl) :
    EV X ks W (.Call (.Name x p) (.Name y p' :: es) [] pos) rsh (tCallS (spV K mg (n + 1) (s0 :: leaves n) 1 rsh g) (WE W) (tCons (tVar i) t)) (mCall1 i n g ma) := by
  subst hK hmg; exact ev_call1 i c hx hr hgd ha hky hN hv hd hcd hg hdb he hpl
end
end VL
/-! V16: reading mirrors. -/
namespace VL
open PySem PySem.Spec L2

section
variable (ρ : DEnv) (i j : Nat) (m n o : ME) (a b c : MO) (d : D)
@[simp] theorem e_var : mVar i ρ = R.of ((ρ[i]?).bind id) ρ := rfl
@[simp] theorem e_C : mC d ρ = .ok d ρ := rfl
@[simp] theorem e_V : mV m ρ = (m ρ).bind fun d ρ1 => .ok (.v d) ρ1 := rfl
@[simp] theorem e_S : mS i ρ = (R.of ((ρ[i]?).bind id) ρ).bind fun _ ρ1 => .ok (.s i) ρ1 := rfl
@[simp] theorem e_getv : (Opd.v d).get ρ = some d := rfl
@[simp] theorem e_gets : (Opd.s i).get ρ = (ρ[i]?).bind id := rfl
@[simp] theorem e_own : own ρ i = (ρ[i]?).bind id := rfl
@[simp] theorem e_op1 (f : D → Option D) : mOp1 f a ρ = (a ρ).bind fun x ρ1 => R.of ((x.get ρ1).bind f) ρ1 := rfl
@[simp] theorem e_op2 (f : D → D → Option D) : mOp2 f a b ρ = (a ρ).bind fun x ρ1 => (b ρ1).bind fun y ρ2 => R.of ((x.get ρ2).bind fun d => (y.get ρ2).bind fun e => f d e) ρ2 := rfl
@[simp] theorem e_opN (f : List D → Option D) (t : DEnv → R (List Opd)) : mOpN f t ρ = (t ρ).bind fun xs ρ1 => R.of ((getAll xs ρ1).bind f) ρ1 := rfl
@[simp] theorem e_getA0 : getAll [] ρ = some [] := rfl
@[simp] theorem e_getA (x : Opd) (xs : List Opd) : getAll (x :: xs) ρ = (x.get ρ).bind fun d => (getAll xs ρ).bind fun ds => some (d :: ds) := rfl
@[simp] theorem e_oNil : mONil ρ = .ok [] ρ := rfl
@[simp] theorem e_oCons (t : DEnv → R (List Opd)) : mOCons a t ρ = (a ρ).bind fun d ρ1 => (t ρ1).bind fun ds ρ2 => .ok (d :: ds) ρ2 := rfl
@[simp] theorem e_nil : mNil ρ = .ok [] ρ := rfl
@[simp] theorem e_cons (t : MA) : mCons m t ρ = (m ρ).bind fun d ρ1 => (t ρ1).bind fun ds ρ2 => .ok (d :: ds) ρ2 := rfl
@[simp] theorem e_tup (t : MA) : mTup t ρ = (t ρ).bind fun ds ρ1 => if ds.length ≤ 16777216 then .ok (.tup ds) ρ1 else .no := rfl
@[simp] theorem e_lst (t : MA) : mLst t ρ = (t ρ).bind fun ds ρ1 => if ds.length ≤ 16777216 then .ok (.lst ds) ρ1 else .no := rfl
@[simp] theorem e_test : mTest m ρ = (m ρ).bind asB := rfl
@[simp] theorem e_asB (k : Bool) : asB (.bl k) ρ = .ok k ρ := rfl
@[simp] theorem e_not (t : MT) : mNot t ρ = (t ρ).bind fun c ρ1 => .ok (!c) ρ1 := rfl
@[simp] theorem e_and (t u : MT) : mAnd t u ρ = (t ρ).bind fun c ρ1 => if c = true then u ρ1 else .ok false ρ1 := rfl
@[simp] theorem e_or (t u : MT) : mOr t u ρ = (t ρ).bind fun c ρ1 => if c = true then .ok true ρ1 else u ρ1 := rfl
@[simp] theorem e_andV : mAndV m n ρ = ((m ρ).bind asB).bind fun c ρ1 => if c = true then n ρ1 else .ok (.bl false) ρ1 := rfl
@[simp] theorem e_orV : mOrV m n ρ = ((m ρ).bind asB).bind fun c ρ1 => if c = true then .ok (.bl true) ρ1 else n ρ1 := rfl
@[simp] theorem e_notV : mNotV m ρ = ((m ρ).bind asB).bind fun c ρ1 => .ok (.bl (!c)) ρ1 := rfl
@[simp] theorem e_if (t : MT) : mIf t m n ρ = (t ρ).bind fun k ρ1 => if k = true then m ρ1 else n ρ1 := rfl
@[simp] theorem e_chain (f g : D → D → Option D) : mChain f g m n o ρ = (m ρ).bind fun d ρ1 => (n ρ1).bind fun e ρ2 => match f d e with
  | some (.bl true) => (o ρ2).bind fun z ρ3 => R.of (g e z) ρ3
  | some (.bl false) => .ok (.bl false) ρ2
  | _ => .no := rfl
@[simp] theorem e_sl (f : Option Int → Option Int → D → Option D) (l h : DEnv → R (Option Int)) : mSl f a l h ρ = (a ρ).bind fun o ρ1 => (l ρ1).bind fun i ρ2 => (h ρ2).bind fun j ρ3 => R.of ((o.get ρ3).bind (f i j)) ρ3 := rfl
@[simp] theorem e_noPart : mNoPart ρ = .ok none ρ := rfl
@[simp] theorem e_part : mPart m ρ = (m ρ).bind asI := rfl
@[simp] theorem e_asI (k : Int) : asI (.int k) ρ = .ok (some k) ρ := rfl
@[simp] theorem e_M1 (f : D → D → Option D) : mM1 f m b ρ = (m ρ).bind fun d ρ1 => (match d with | .str x => (b ρ1).bind fun o ρ2 => R.of ((o.get ρ2).bind fun e => f (.str x) e) ρ2 | _ => .no) := rfl
@[simp] theorem e_pNil : mPNil ρ = .ok [] ρ := rfl
@[simp] theorem e_pCons (t : DEnv → R (List (Key × D))) : mPCons m n t ρ = (m ρ).bind fun k ρ1 => (n ρ1).bind fun v ρ2 => (t ρ2).bind fun r ρ3 => match keyK k with
  | some q => .ok ((q, v) :: r) ρ3
  | none => .no := rfl
@[simp] theorem e_disp (t : DEnv → R (List (Key × D))) : mDisp t ρ = (t ρ).bind fun ds ρ1 => if ds.length ≤ 15 then .ok (.dK (putAll [] ds)) ρ1 else .no := rfl
@[simp] theorem e_move : mMove i ρ = (R.of (own ρ i) ρ).bind fun d _ => .ok d (ρ.set i none) := rfl
@[simp] theorem e_Ls : mLs m ρ = (m ρ).bind asL := rfl
@[simp] theorem e_Ts : mTs m ρ = (m ρ).bind asT := rfl
@[simp] theorem e_Ss : mSs m ρ = (m ρ).bind asS := rfl
@[simp] theorem e_asL (ds : List D) : asL (.lst ds) ρ = .ok ds ρ := rfl
@[simp] theorem e_asT (ds : List D) : asT (.tup ds) ρ = .ok ds ρ := rfl
@[simp] theorem e_asS (x : Str) : asS (.str x) ρ = .ok (signs x) ρ := rfl
@[simp] theorem e_R1 (t : MA) : mR1 t ρ = (t ρ).bind mRng1 := rfl
@[simp] theorem e_R2 (t : MA) : mR2 t ρ = (t ρ).bind mRng2 := rfl
@[simp] theorem e_rng1 (k : Int) : mRng1 [.int k] ρ = if -1000000 ≤ k ∧ k ≤ 1000000 then .ok (rangeD 0 k.toNat) ρ else .no := rfl
@[simp] theorem e_rng2 (k l : Int) : mRng2 [.int k, .int l] ρ = if -1000000 ≤ k ∧ k ≤ 1000000 ∧ -1000000 ≤ l ∧ l ≤ 1000000 then .ok (rangeD k (l - k).toNat) ρ else .no := rfl
@[simp] theorem e_call0 (k : Nat) (g : List D → R D) (t : MA) : mCall0 k g t ρ = (t ρ).bind fun ds ρ1 => if ds.length = k then (match g ds with | .ok d _ => .ok d ρ1 | .ex e _ => .ex e ρ1 | .no => .no) else .no := rfl
@[simp] theorem e_call1 (k : Nat) (g : List D → R D) (t : MA) : mCall1 i k g t ρ = (R.of (own ρ i) ρ).bind fun _ _ => (t ρ).bind fun ds ρ1 => (R.of (own ρ1 i) ρ1).bind fun d0 _ =>
  if ds.length = k then (match g (d0 :: ds) with | .ok d [some d1] => .ok d (ρ1.set i (some d1)) | .ex e [some d1] => .ex e (ρ1.set i (some d1)) | _ => .no) else .no := rfl
@[simp] theorem e_nx : mNx ρ = .ok .nx ρ := rfl
@[simp] theorem e_seq (s t : MS) : mSeq s t ρ = (s ρ).bind fun f ρ1 => match f with | .nx => t ρ1 | .rt d => .ok (.rt d) ρ1 := rfl
@[simp] theorem e_ifS (t : MT) (u v : MS) : mIfS t u v ρ = (t ρ).bind fun k ρ1 => if k = true then u ρ1 else v ρ1 := rfl
@[simp] theorem e_set : mSet i m ρ = (m ρ).bind fun d ρ1 => .ok .nx (ρ1.set i (some d)) := rfl
@[simp] theorem e_ret : mRet m ρ = (m ρ).bind fun d ρ1 => .ok (.rt d) ρ1 := rfl
@[simp] theorem e_drop : mDrop m ρ = (m ρ).bind fun _ ρ1 => .ok .nx ρ1 := rfl
@[simp] theorem e_put : mPut i m n ρ = (n ρ).bind fun v ρ1 => (R.of (own ρ1 i) ρ1).bind fun _ _ => (m ρ1).bind fun k ρ2 => (R.of ((own ρ2 i).bind fun d => putD d k v) ρ2).bind fun d' ρ3 => .ok .nx (ρ3.set i (some d')) := rfl
@[simp] theorem e_asg (k : D → DEnv → Option DEnv) : mAsg k m ρ = (m ρ).bind fun d ρ1 => match k d ρ1 with | some ρ2 => .ok .nx ρ2 | none => .no := rfl
@[simp] theorem e_kName : kName i d ρ = some (ρ.set i (some d)) := rfl
@[simp] theorem e_kNil : kNil [] ρ = some ρ := rfl
@[simp] theorem e_kCons (k : D → DEnv → Option DEnv) (l : List D → DEnv → Option DEnv) (ds : List D) : kCons k l (d :: ds) ρ = (k d ρ).bind fun ρ1 => l ds ρ1 := rfl
@[simp] theorem e_kTup (l : List D → DEnv → Option DEnv) (ds : List D) : kTup' i l (.tup ds) ρ = if ds.length = i then l ds ρ else none := rfl
@[simp] theorem e_loop (k : D → DEnv → Option DEnv) (s : MS) (t : MA) : mLoop k s t ρ = (t ρ).bind fun ds ρ1 => mFor k s ds ρ1 := rfl
@[simp] theorem e_run (N fx : Nat) (s : MS) (ds : List D) : runF N fx s ds = fin fx (s (ds.map some ++ List.replicate (N - ds.length) none)) := rfl
@[simp] theorem e_fin1 (fx : Nat) : fin fx (.ok .nx ρ) = .ok .non (ρ.take fx) := rfl
@[simp] theorem e_fin2 (fx : Nat) : fin fx (.ok (.rt d) ρ) = .ok d (ρ.take fx) := rfl
@[simp] theorem e_mtL (f : List D → List D → Option (D × List D)) (t : MA) : mMtL i f t ρ = match own ρ i with
  | some (.lst _) => (t ρ).bind fun es ρ1 => (match own ρ1 i with
    | some (.lst ds) => (match f ds es with | some (z, ds') => .ok z (ρ1.set i (some (.lst ds'))) | none => .no)
    | _ => .no)
  | _ => .no := rfl
@[simp] theorem e_yes : mYes ρ = .ok true ρ := rfl
@[simp] theorem e_one (f : D → Option D) : one f [d] = f d := rfl
@[simp] theorem e_two (f : D → D → Option D) (e : D) : two f [d, e] = f d e := rfl
end
@[simp] theorem d_sub (i j : Int) : subD (.int i) (.int j) = some (.int (i - j)) := rfl
@[simp] theorem d_add (i j : Int) : addD (.int i) (.int j) = some (.int (i + j)) := rfl
@[simp] theorem d_addS (x y : Str) : addD (.str x) (.str y) = if x.length + y.length ≤ 16777216 then some (.str (x ++ y)) else none := rfl
@[simp] theorem d_addL (x y : List D) : addD (.lst x) (.lst y) = if x.length + y.length ≤ 16777216 then some (.lst (x ++ y)) else none := rfl
@[simp] theorem d_addT (x y : List D) : addD (.tup x) (.tup y) = if x.length + y.length ≤ 16777216 then some (.tup (x ++ y)) else none := rfl
@[simp] theorem d_mul (i j : Int) : mulD (.int i) (.int j) = if mulOk i j = true then some (.int (i * j)) else none := rfl
@[simp] theorem d_mod (i j : Int) : modD (.int i) (.int j) = if 0 < j then some (.int (i % j)) else none := rfl
@[simp] theorem d_fdiv (i j : Int) : fdivD (.int i) (.int j) = if 0 < j ∧ j < 10 ^ 30 then some (.int (i / j)) else none := rfl
@[simp] theorem d_pow (i j : Int) : powD (.int i) (.int j) = if 0 ≤ j ∧ j ≤ 1000 ∧ i.natAbs < 2 ^ 64 then some (.int (i ^ j.toNat)) else none := rfl
@[simp] theorem d_lt (i j : Int) : ltD (.int i) (.int j) = some (.bl (decide (i < j))) := rfl
@[simp] theorem d_le (i j : Int) : leD (.int i) (.int j) = some (.bl (decide (i ≤ j))) := rfl
@[simp] theorem d_gt (i j : Int) : gtD (.int i) (.int j) = some (.bl (decide (j < i))) := rfl
@[simp] theorem d_ge (i j : Int) : geD (.int i) (.int j) = some (.bl (decide (j ≤ i))) := rfl
@[simp] theorem d_eqI (i j : Int) : eqD (.int i) (.int j) = some (.bl (decide (i = j))) := by
  have h : eqOk (.int i) (.int j) = true := by simp [eqOk, D.py, D.toPy, PyData.depth]
  have e : eqB (.int i) (.int j) = some (eqv (.int i) (.int j)) := by
    show (if eqOk (.int i) (.int j) = true then some (eqv (.int i) (.int j)) else none) = _
    rw [if_pos h]
  unfold eqD
  rw [e]
  unfold eqv
  rw [D.toPy, D.toPy, PyData.eqv]
  by_cases q : i = j
  · subst q; simp
  · simp [q]
/-! ### what a result comes to -/
def Sat {α : Type} (r : R α) (Q : α → DEnv → Prop) : Prop := ∃ a ρ, r = .ok a ρ ∧ Q a ρ
theorem sat_ok {α : Type} {a : α} {ρ : DEnv} {Q : α → DEnv → Prop} (h : Q a ρ) : Sat (.ok a ρ) Q := ⟨a, ρ, rfl, h⟩
theorem sat_of {α : Type} {r : R α} {a : α} {ρ : DEnv} {Q : α → DEnv → Prop} (e : r = .ok a ρ) (h : Q a ρ) : Sat r Q := ⟨a, ρ, e, h⟩
theorem Sat.bind {α β : Type} {r : R α} {f : α → DEnv → R β} {Q : β → DEnv → Prop} (h : Sat r fun a ρ => Sat (f a ρ) Q) : Sat (r.bind f) Q := by
  obtain ⟨a, ρ, rfl, h⟩ := h; exact h
theorem Sat.mono {α : Type} {r : R α} {Q Q' : α → DEnv → Prop} (h : Sat r Q) (k : ∀ a ρ, Q a ρ → Q' a ρ) : Sat r Q' := by
  obtain ⟨a, ρ, rfl, h⟩ := h; exact ⟨a, ρ, rfl, k a ρ h⟩
theorem sat_seq {m n : MS} {ρ : DEnv} {Q : Fl → DEnv → Prop} (h : Sat (m ρ) fun f ρ1 => f = .nx ∧ Sat (n ρ1) Q) : Sat (mSeq m n ρ) Q := by
  obtain ⟨a, ρ1, e, rfl, h⟩ := h
  rw [e_seq, e]; exact h
theorem sat_set {i : Nat} {m : ME} {ρ : DEnv} {Q : Fl → DEnv → Prop} (h : Sat (m ρ) fun d ρ1 => Q .nx (ρ1.set i (some d))) : Sat (mSet i m ρ) Q := by
  obtain ⟨a, ρ1, e, h⟩ := h
  rw [e_set, e]; exact ⟨_, _, rfl, h⟩
theorem sat_drop {m : ME} {ρ : DEnv} {Q : Fl → DEnv → Prop} (h : Sat (m ρ) fun _ ρ1 => Q .nx ρ1) : Sat (mDrop m ρ) Q := by
  obtain ⟨a, ρ1, e, h⟩ := h
  rw [e_drop, e]; exact ⟨_, _, rfl, h⟩
theorem sat_ifS {c : MT} {m n : MS} {ρ : DEnv} {Q : Fl → DEnv → Prop} (h : Sat (c ρ) fun k ρ1 => if k = true then Sat (m ρ1) Q else Sat (n ρ1) Q) : Sat (mIfS c m n ρ) Q := by
  obtain ⟨a, ρ1, e, h⟩ := h
  rw [e_ifS, e]
  cases a with
  | true => exact h
  | false => exact h
theorem sat_ret {m : ME} {ρ : DEnv} {Q : Fl → DEnv → Prop} (h : Sat (m ρ) fun d ρ1 => Q (.rt d) ρ1) : Sat (mRet m ρ) Q := by
  obtain ⟨a, ρ1, e, h⟩ := h
  rw [e_ret, e]; exact ⟨_, _, rfl, h⟩
/-- a loop by what holds at each turn -/
theorem sat_for {k : D → DEnv → Option DEnv} {body : MS} {I : Nat → DEnv → Prop} {Q : Fl → DEnv → Prop} (ds : List D)
    (step : ∀ i d ρ, ds[i]? = some d → I i ρ → ∃ ρ1, k d ρ = some ρ1 ∧ Sat (body ρ1) fun f ρ2 => (f = .nx ∧ I (i + 1) ρ2) ∨ (∃ z, f = .rt z ∧ Q (.rt z) ρ2)) (ρ : DEnv) (h0 : I 0 ρ) (fin : ∀ ρ, I ds.length ρ → Q .nx ρ) : Sat (mFor k body ds ρ) Q := by
  have go : ∀ (l : List D) (j : Nat) (ρ : DEnv), ds.drop j = l → j + l.length = ds.length → I j ρ → Sat (mFor k body l ρ) Q := by
    intro l
    induction l with
    | nil =>
      intro j ρ hd hl hi
      have e : j = ds.length := by simpa using hl
      subst e; exact ⟨_, _, rfl, fin _ hi⟩
    | cons d l ih =>
      intro j ρ hd hl hi
      have ed : ds[j]? = some d := by
        have : (ds.drop j)[0]? = some d := by rw [hd]; rfl
        simpa using this
      obtain ⟨ρ1, e1, f, ρ2, e2, h⟩ := step j d ρ ed hi
      unfold mFor
      rw [e1]
      dsimp only
      rw [e2]
      rcases h with ⟨rfl, h⟩ | ⟨z, rfl, h⟩
      · exact ih (j + 1) ρ2 (by rw [← List.drop_drop, hd]; rfl) (by rw [List.length_cons] at hl; omega) h
      · exact ⟨_, _, rfl, h⟩
  exact go ds 0 ρ rfl (by simp) h0
/-- a comprehension that leaves the frame as it is -/
theorem mLc_gen {ma : MA} {k : D → DEnv → Option DEnv} {test : MT} {elt : ME} {vs : List Nat} {ρ : DEnv} {ds : List D} (p : D → Bool) (f : D → D) (hma : ma ρ = .ok ds ρ) (hlen : ds.length ≤ 16777216)
    (hstep : ∀ d ∈ ds, ∃ ρ1, k d (wipeD ρ vs) = some ρ1 ∧ wipeD ρ1 vs = wipeD ρ vs ∧ test ρ1 = .ok (p d) ρ1 ∧ (p d = true → elt ρ1 = .ok (f d) ρ1)) (hfill : fillD ρ vs (wipeD ρ vs) = ρ) :
    mLc ma k test elt vs ρ = .ok (.lst ((ds.filter p).map f)) ρ := by
  have go : ∀ (l : List D) (acc : List D) (ρ0 : DEnv), (∀ d ∈ l, d ∈ ds) → acc.length + l.length ≤ 16777216 → wipeD ρ0 vs = wipeD ρ vs → ∃ ρ', mLcGo k test elt vs l acc ρ0 = .ok (acc ++ (l.filter p).map f) ρ' ∧ wipeD ρ' vs = wipeD ρ vs := by
    intro l
    induction l with
    | nil => intro acc ρ0 _ _ h; exact ⟨ρ0, by simp [mLcGo], h⟩
    | cons d l ih =>
      intro acc ρ0 hm hl h
      obtain ⟨ρ1, e1, e2, e3, e4⟩ := hstep d (hm d List.mem_cons_self)
      rw [List.length_cons] at hl
      unfold mLcGo
      rw [h, e1]
      dsimp only
      rw [e3, R.bindN_ok]
      cases hp : p d with
      | false =>
        rw [if_neg Bool.false_ne_true]
        obtain ⟨ρ', e5, e6⟩ := ih acc ρ1 (fun x m => hm x (List.mem_cons_of_mem _ m)) (by omega) e2
        refine ⟨ρ', ?_, e6⟩
        rw [e5, List.filter_cons_of_neg (by rw [hp]; exact Bool.false_ne_true)]
      | true =>
        rw [if_pos rfl, e4 hp, R.bindN_ok, if_pos (by omega)]
        obtain ⟨ρ', e5, e6⟩ := ih (acc ++ [f d]) ρ1 (fun x m => hm x (List.mem_cons_of_mem _ m)) (by rw [List.length_append, List.length_singleton]; omega) e2
        refine ⟨ρ', ?_, e6⟩
        rw [e5, List.filter_cons_of_pos hp, List.map_cons, List.append_assoc]
        rfl
  obtain ⟨ρ', e1, e2⟩ := go ds [] ρ (fun _ m => m) (by simpa using hlen) rfl
  unfold mLc
  rw [hma, R.bind_ok, e1, R.bind_ok, e2, hfill]
  rfl
/-- .. of one name, without an if -/
theorem mLc_one {ma : MA} {elt : ME} {i : Nat} {ρ : DEnv} {ds : List D} (f : D → D) (hma : ma ρ = .ok ds ρ) (hlen : ds.length ≤ 16777216) (hi : i < ρ.length)
    (helt : ∀ d ∈ ds, elt (ρ.set i (some d)) = .ok (f d) (ρ.set i (some d))) : mLc ma (kName i) mYes elt [i] ρ = .ok (.lst (ds.map f)) ρ := by
  have hs : ∀ d, (ρ.set i none).set i (some d) = ρ.set i (some d) := fun d => List.set_set ..
  have := mLc_gen (k := kName i) (test := mYes) (elt := elt) (vs := [i]) (fun _ => true) f hma hlen (fun d m => ⟨ρ.set i (some d), by show some ((ρ.set i none).set i (some d)) = _; rw [hs], by show (ρ.set i (some d)).set i none = ρ.set i none; exact List.set_set .., rfl, fun _ => helt d m⟩) (by
    show (ρ.set i none).set i ((ρ[i]?).bind id) = ρ
    rw [List.set_set]
    apply List.ext_getElem?
    intro j
    by_cases e : i = j
    · subst e
      rw [List.getElem?_set_self hi, List.getElem?_eq_getElem hi]
      cases ρ[i] <;> rfl
    · rw [List.getElem?_set_ne e])
  rw [this]
  congr 3
  exact List.filter_eq_self.mpr fun _ _ => rfl
/-- a comprehension by what holds of what is made so far -/
theorem sat_lc {ma : MA} {k : D → DEnv → Option DEnv} {test : MT} {elt : ME} {vs : List Nat} {ρ ρ0 : DEnv} {ds : List D} {I : List D → DEnv → Prop} {Q : D → DEnv → Prop} (hma : ma ρ = .ok ds ρ0) (hlen : ds.length ≤ 16777216) (h0 : I [] ρ0)
    (step : ∀ d ∈ ds, ∀ acc ρ, I acc ρ → acc.length < 16777216 → ∃ ρ1, k d (wipeD ρ vs) = some ρ1 ∧ ∃ b ρ2, test ρ1 = .ok b ρ2 ∧ (if b = true then Sat (elt ρ2) fun y ρ3 => I (acc ++ [y]) ρ3 else I acc ρ2))
    (fin : ∀ ys ρ, ys.length ≤ ds.length → I ys ρ → Q (.lst ys) (fillD ρ0 vs (wipeD ρ vs))) : Sat (mLc ma k test elt vs ρ) Q := by
  have go : ∀ (l : List D) (acc : List D) (ρ1 : DEnv), (∀ d ∈ l, d ∈ ds) → acc.length + l.length ≤ ds.length → I acc ρ1 → ∃ ys ρ', mLcGo k test elt vs l acc ρ1 = .ok ys ρ' ∧ ys.length ≤ ds.length ∧ I ys ρ' := by
    intro l
    induction l with
    | nil => intro acc ρ1 _ hl h; exact ⟨acc, ρ1, rfl, by simpa using hl, h⟩
    | cons d l ih =>
      intro acc ρ1 hm hl h
      rw [List.length_cons] at hl
      obtain ⟨ρ2, e1, b, ρ3, e2, e3⟩ := step d (hm d List.mem_cons_self) acc ρ1 h (by omega)
      unfold mLcGo
      rw [e1]
      dsimp only
      rw [e2, R.bindN_ok]
      cases b with
      | false =>
        rw [if_neg Bool.false_ne_true] at e3 ⊢
        exact ih acc ρ3 (fun x m => hm x (List.mem_cons_of_mem _ m)) (by omega) e3
      | true =>
        rw [if_pos rfl] at e3 ⊢
        obtain ⟨y, ρ4, e4, e5⟩ := e3
        rw [e4, R.bindN_ok, if_pos (by omega)]
        exact ih (acc ++ [y]) ρ4 (fun x m => hm x (List.mem_cons_of_mem _ m)) (by rw [List.length_append, List.length_singleton]; omega) e5
  obtain ⟨ys, ρ', e1, e2, e3⟩ := go ds [] ρ0 (fun _ m => m) (by simp) h0
  unfold mLc
  rw [hma, R.bind_ok, e1, R.bind_ok]
  exact ⟨_, _, rfl, fin ys ρ' e2 e3⟩
end VL
/-! V17: xs[::1], xs[::-1] of a list; enumerate of a tuple; count; a raise that is not reached. -/
namespace VL
open PySem PySem.Spec L2

/-! ### steps -/
theorem pick_fwd (items : Array Value) : slicePick items none none (some 1) = items := by
  have e : sliceBounds none none (some 1) items.size = sliceBounds none none none items.size := by simp [sliceBounds]
  have h := slicePick_all items
  unfold slicePick at h ⊢
  rw [e]; exact h
abbrev rStep (K : PySem.W.Frag) : R2 := fun x y H Q => ∃ a xs i, x = .ref a ∧ y = .int i ∧ SqL K H a xs ∧ ((i = 1 ∧ ∀ p, H p = none → Q (.ref p) (upd H p (.lst xs))) ∨ (i = -1 ∧ ∀ p, H p = none → Q (.ref p) (upd H p (.lst xs.reverse))))
section
variable {X : Cx} {a c : Expr} {ta tc : TE} {pos p2 : Pos}
theorem pe_step (ha : PE X a ta) (hc : PE X c tc) : PE X (.Subscript a (.Slice none none (some c) p2) pos) (tOp (rStep X.K) ta tc) := by
  refine ⟨fun pins s σ H Q I h => PyProof.Rows.Subscript_ (thn (ha.run pins s σ H _ I h) fun v s1 ⟨x, H1, I1, r1, q1⟩ => ?_)⟩
  refine wpAny_Slice ?_
  rw [evalPart_none]
  refine wpAny_pure (wpAny_pure ?_)
  rw [evalPart_some]
  refine thn (hc.run pins s1 σ H1 _ I1 q1) fun u s2 ⟨y, H2, I2, r2, q2⟩ => ?_
  obtain ⟨l, xs, i, rfl, rfl, hs, q2⟩ := q2
  cases r1
  obtain ⟨t, rfl⟩ := r2
  have I3 : Inv X pins σ H2 { s2 with heap := s2.heap.push { cls := .type "slice", data := .fields #[.none, .none, .int i t] } } := I2.kept (t' := s2.toks) fun b ob q => Heap.get?_push_of_some _ q
  obtain ⟨its, r, ht, hz⟩ := I3.list hs
  have hlen := r.length
  have lay : ∀ (ys : List V) (us : List Value), Vals ys us → ys.length ≤ sizeLine → (∀ p, H2 p = none → Q (.ref p) (upd H2 p (.lst ys))) →
      EP X pins σ Q (.ref (s2.heap.push { cls := .type "slice", data := .fields #[.none, .none, .int i t] }).objs.size) { s2 with heap := (s2.heap.push { cls := .type "slice", data := .fields #[.none, .none, .int i t] }).push { cls := .type "list", data := .seq us.toArray } } := fun ys us rv hl q =>
    ⟨.ref _, _, I3.laid (t' := s2.toks) (o := .lst ys) (fun b ob q => Heap.get?_push_of_some _ q) (Nat.le_refl _) ⟨hl, us, 0, rv, Heap.get?_push_size _ rfl⟩, rfl, q _ (I3.hok.fresh (Nat.le_refl _))⟩
  have go : ∀ (us : Array Value) (i0 : Int), i = i0 → i0 ≠ 0 → slicePick its.toArray none none (some i0) = us → EP X pins σ Q (.ref (s2.heap.push { cls := .type "slice", data := .fields #[.none, .none, .int i t] }).objs.size) { s2 with heap := (s2.heap.push { cls := .type "slice", data := .fields #[.none, .none, .int i t] }).push { cls := .type "list", data := .seq us } } →
      wpAny (model X.prog X.w) X.A (PyProof.Rows.subscriptTail a (.Slice none none (some c) p2) (.ref l) (.ref s2.heap.objs.size)) (EP X pins σ Q) X.xe { s2 with heap := s2.heap.push { cls := .type "slice", data := .fields #[.none, .none, .int i t] } } := fun us i0 e n0 ep hq => by
    subst e
    refine PyProof.Rows.tail_any (ops := [.ref l, .ref s2.heap.objs.size]) ht.isList.typeIs PySem.F.slot_list_getitem.lookup ?_ (by with_unfolding_all rfl)
    refine wpAny_getItem_list_slice (st := some i) ht.isList (Heap.IsSliceOf.new ..) .none .none (.int i t) (fun z => n0 (Option.some.inj z)) ?_ (by rw [List.size_toArray, ← hlen]; exact hz)
    rw [ep]
    exact hq
  rcases q2 with ⟨rfl, q⟩ | ⟨rfl, q⟩
  · exact go _ 1 rfl (by decide) (pick_fwd _) (lay xs its r hz q)
  · exact go _ (-1) rfl (by decide) (PySem.W.krv_pick _) (lay xs.reverse its.reverse r.reverse (by rw [List.length_reverse]; exact hz) q)
end
def stepD : D → D → Option D
  | .lst ds, .int i => if i = 1 then some (.lst ds) else if i = -1 then some (.lst ds.reverse) else none
  | _, _ => none
theorem s_step {K : PySem.W.Frag} : Op2 K (.lst .leaf) (rStep K) stepD := by
  intro F H x y d e z Q sm h k q ok
  unfold stepD at q
  split at q
  · rename_i ds i
    obtain ⟨p, vs, rfl, e2, r⟩ := h.lstE sm
    have ei := k.intE
    subst ei
    split at q
    · rename_i e1
      cases q
      exact ⟨p, vs, i, rfl, rfl, .inl (.inl e2), .inl ⟨e1, fun l n => ok.newL sm r n⟩⟩
    · split at q
      · rename_i e1
        cases q
        exact ⟨p, vs, i, rfl, rfl, .inl (.inl e2), .inr ⟨e1, fun l n => ok.newL sm r.reverse n⟩⟩
      · cases q
  · cases q
theorem ev_step {X : Cx} {ks : List Sh} {W : WX} {a c : Expr} {ta tc : TE} {mo mp : MO} {pos p2 : Pos} (K : PySem.W.Frag) (hK : X.K = K) (ha : EO X ks W a ta mo) (hc : EO X ks W c tc mp) :
    EV X ks W (.Subscript a (.Slice none none (some c) p2) pos) (.lst .leaf) (tOp (rStep K) ta tc) (mOp2 stepD mo mp) := by
  subst hK
  exact ⟨pe_step ha.pe hc.pe, snd_op2 (b := bd X ks W) s_step ha.sd hc.sd⟩

/-! ### a raise that is not reached -/
theorem sv_no {X : Cx} {ks : List Sh} {W : WX} {rsh : Sh} {fx : Nat} {e : Option Expr} {c : Option Expr} {pos : Pos} : SV X ks W rsh fx (.Raise e c pos) (fun _ _ _ => False) (fun _ => .no) :=
  ⟨⟨fun pins s σ H D I h => h.elim⟩, fun ρ σ F H fp D r h => h⟩

/-! ### count -/
theorem count_eqU {z : Str} : ∀ {ys : List Str} {us : List Value}, Vals (ys.map V.str) us → us.countP (eqU (.str z)) = ys.count z
  | [], _, .nil => rfl
  | y :: ys, u :: us, .cons r t => by
    rw [List.countP_cons, List.count_cons, count_eqU t, eqU_of r rfl]
    congr 1
abbrev rCnt (K : PySem.W.Frag) : V → List V → Hp → VK → Prop := fun x xs H Q => ∃ p, ∃ ys : List Str, ∃ z, x = .ref p ∧ xs = [.str z] ∧ SqL K H p (ys.map V.str) ∧ Q (.int (ys.count z : Nat)) H
abbrev rCntT (K : PySem.W.Frag) : V → List V → Hp → VK → Prop := fun x xs H Q => ∃ p, ∃ ys : List Str, ∃ z, x = .ref p ∧ xs = [.str z] ∧ SqT K H p (ys.map V.str) ∧ Q (.int (ys.count z : Nat)) H
section
variable {X : Cx}
theorem mt_cnt : MtR X "list.count" (rCnt X.K) := by
  intro pins s σ H x xs v us Q I rx rxs h
  obtain ⟨p, ys, z, rfl, rfl, hs, q⟩ := h
  cases rx
  obtain ⟨u, rfl, t, rfl⟩ := vals1 rxs
  obtain ⟨its, rv, ⟨⟨cls, dd, data, sl⟩, n, ho, hc, hdn, hd⟩, hlen⟩ := I.list hs
  simp only at hc hd
  subst hc hd
  refine call_meets PySem.F.slot_list_count ⟨_, ho, rfl⟩ PySem.F.entry_list_count (PySem.F.args_list_count_2 _ _) (SeqAt.list_countAt p its.toArray n dd sl (.str z t) (eqU (.str z)))
    ⟨ho, fun y hy => mem_eqAt (x := .str z) ⟨t, rfl⟩ rfl rv (flat_strs ys) y (by simpa using hy), ⟨.int (ys.count z : Nat), H, I.tok _, ⟨s.toks, ?_⟩, q⟩⟩
  show Value.int ((its.toArray.toList.countP (eqU (.str z)) : Nat) : Int) s.toks = _
  rw [List.toList_toArray, count_eqU rv]
theorem mt_cntT : MtR X "tuple.count" (rCntT X.K) := by
  intro pins s σ H x xs v us Q I rx rxs h
  obtain ⟨p, ys, z, rfl, rfl, hs, q⟩ := h
  cases rx
  obtain ⟨u, rfl, t, rfl⟩ := vals1 rxs
  obtain ⟨its, rv, ⟨⟨cls, dd, data, sl⟩, ho, hc, n, hd⟩, hlen⟩ := I.tuple hs
  simp only at hc hd
  subst hc hd
  refine call_meets PySem.F.slot_tuple_count ⟨_, ho, rfl⟩ PySem.F.entry_tuple_count (PySem.F.args_tuple_count_2 _ _) (SeqAt.tuple_countAt p its.toArray n dd sl (.str z t) (eqU (.str z)))
    ⟨ho, fun y hy => mem_eqAt (x := .str z) ⟨t, rfl⟩ rfl rv (flat_strs ys) y (by simpa using hy), ⟨.int (ys.count z : Nat), H, I.tok _, ⟨s.toks, ?_⟩, q⟩⟩
  show Value.int ((its.toArray.toList.countP (eqU (.str z)) : Nat) : Int) s.toks = _
  rw [List.toList_toArray, count_eqU rv]
end
end VL
/-! V18: enumerate of a tuple, of a list that stands; count of a list. -/
namespace VL
open PySem PySem.Spec L2
open AutoSeq1 (wpAny_loadPart')

theorem meets_enumT (l : Addr) (items : Array Value) (n : Nat) (dct : Option Addr) (sl : Array (Option Value)) :
    Meets (Builtin.«enumerate.__new__» ⟨[.type "enumerate", .ref l], []⟩) (fun _ R s => s.heap.get? l = some { cls := .type "tuple", dict := dct, data := .seq items n, slots := sl } ∧
      R (.ok (.ret (.ref (s.heap.push { cls := .type "tuple_iterator", data := .fields #[.ref l, .int 0 0] }).objs.size)))
        { s with heap := (s.heap.push { cls := .type "tuple_iterator", data := .fields #[.ref l, .int 0 0] }).push { cls := .type "enumerate", data := .fields #[.none, .bool false, .ref s.heap.objs.size, rawInt 0, .none, .none] } }) :=
  .of_wp fun prog w A R ⟨hp, g, dr, tk, os⟩ ⟨hl, h⟩ => by
    have sub := sub_enumerate
    have it : Heap.IsTuple (Shared.heap ⟨hp, g, dr, tk, os⟩) l items := ⟨_, hl, rfl, n, rfl⟩
    wp_walk using wpAny_loadPart' hl
    refine wpAny_stack_any fun _ => wpAny_pure ?_
    split
    · rename_i c _ _ _ _ _
      cases (c == Value.type "enumerate") <;> (wp_walk using wpAny_loadPart' hl, wpAny_pyIter_tuple it; exact ⟨_, rfl, h⟩)
    · wp_walk using wpAny_loadPart' hl, wpAny_pyIter_tuple it
      exact ⟨_, rfl, h⟩
section
variable {prog : Program} {w : World} {A : Around} {E : Value → Shared → Prop} {s : Shared}
theorem call_enumT {l : Addr} {items : Array Value} {Q : Value → Shared → Prop} (hl : PyProof.Rows.IsTup s.heap l items)
    (h : ∀ h', IsEnum h' (s.heap.objs.size + 1) s.heap.objs.size ((0 : Nat) : Int) .none → h'.IsTupleIter s.heap.objs.size l 0 → (∀ b o, s.heap.get? b = some o → h'.get? b = some o) → Q (.ref (s.heap.objs.size + 1)) { s with heap := h' }) :
    wpAny (model prog w) A (call (.type "enumerate") [.ref l]) Q E s := by
  obtain ⟨⟨c, dct, dt, sl⟩, ho, hc, n, hd⟩ := hl
  simp only at hc hd
  subst hc hd
  refine callType_new F.called_enumerate (by decide) (F.typeCall_enumerate_1 _) (F.newCall_enumerate_1 _) (fun obj => F.args_object_init_2 obj _) F.entry_enumerate_new (meets_enumT l items n dct sl) ⟨ho, ?_⟩
  have z1 : (s.heap.push { cls := .type "tuple_iterator", data := .fields #[.ref l, .int 0 0] }).objs.size = s.heap.objs.size + 1 := Heap.size_push ..
  show _ ∧ _
  rw [z1]
  have e1 := Heap.get?_push_size (s.heap.push { cls := .type "tuple_iterator", data := .fields #[.ref l, .int 0 0] }) (o := { cls := .type "enumerate", data := .fields #[.none, .bool false, .ref s.heap.objs.size, rawInt 0, .none, .none] }) rfl
  rw [z1] at e1
  exact ⟨⟨_, e1, rfl⟩, h _ e1 ⟨_, Heap.get?_push_of_some _ (Heap.get?_push_size _ rfl), rfl, rfl⟩ fun b o x => Heap.get?_push_of_some _ (Heap.get?_push_of_some _ x)⟩
end
/-- the tuple at a, each item in a new pair with its number -/
def IteT (K : PySem.W.Frag) (a : Addr) : It where
  go := fun i H => ∃ (xs : List V) (x : V), SqT K H a xs ∧ xs[i]? = some x
  yld := fun i H v H' => ∃ T x us, v = .ref T ∧ H T = none ∧ H' = upd H T (tupC us [.int (i : Nat), x]) ∧ ∀ xs, SqT K H a xs → xs[i]? = some x
  stop := fun i H => ∃ xs : List V, SqT K H a xs ∧ xs.length ≤ i
theorem turn_enumT {P : Program} {w : World} {K : PySem.W.Frag} {elts : List Expr} {kk : Nat} {tpos : Pos} (a e it : Addr) :
    Turn P w K (.Tuple elts kk tpos) (IteT K a) [e, it] e (fun i h => (∃ old, IsEnum h e it ((i : Nat) : Int) old) ∧ h.IsTupleIter it a i ∧ e ≠ it ∧ a ≠ it) where
  mem := List.mem_cons_self
  obj := fun i h st b hb => by
    obtain ⟨⟨old, he⟩, ⟨o, ho, _, hd⟩, _⟩ := st
    rcases List.mem_cons.mp hb with z | hb
    · subst z; exact ⟨_, he, fun v q => nomatch q⟩
    · cases List.mem_singleton.mp hb
      exact ⟨o, ho, fun v q => by rw [hd] at q; cases q⟩
  keep := fun i h h' st k => by
    obtain ⟨⟨old, he⟩, hi, n1, n2⟩ := st
    exact ⟨⟨old, k e List.mem_cons_self _ he⟩, hi.at fun o q => k it (List.mem_cons_of_mem _ List.mem_cons_self) o q, n1, n2⟩
  item := by
    intro X hP hw hK hc i pins s σ H E I hf st ⟨xs, x, hq, hx⟩
    subst hP hw hK
    obtain ⟨⟨old, he⟩, hit, n1, n2⟩ := st
    obtain ⟨its, rv, p, hz⟩ := I.tuple hq
    obtain ⟨u, hu, ru⟩ := rv.get hx
    have lt : i < its.toArray.size := by rw [List.size_toArray]; exact (List.getElem?_eq_some_iff.mp hu).1
    have hel : e < s.heap.objs.size := Heap.lt_size he
    have hil : it < s.heap.objs.size := by obtain ⟨_, q, _⟩ := hit; exact Heap.lt_size q
    have ea : e ≠ a := fun z => by
      obtain ⟨o, ho, hcl, _⟩ := p
      subst z
      rw [he] at ho
      cases ho
      exact absurd (Value.type.inj hcl) (by decide)
    have D := Draws.tuple (prog := X.prog) (w := X.w) (A := X.A.in1) (by show X.A.in1.handled = none; exact I.ok.hd hc) it a n2 its.toArray
    refine wpAny_pyNext_enum_itemD D he ⟨hit, p⟩ lt n1 (by simp [n1, ea]) fun y h' tk hy ho st' hT hsz hk => ?_
    have ey : y = u := by
      have hu' : its.toArray[i]? = some u := by simpa using hu
      rw [hu'] at hy
      exact (Option.some.inj hy).symm
    subst ey
    refine ⟨_, rfl, wpAny_letOwnedTupleGo_enum (s := { s with heap := h', toks := tk + 1 }) ho fun h2 he2 sb => ?_⟩
    have hT2 : h2.get? s.heap.objs.size = some { cls := .type "tuple", data := .seq #[.int i tk, y] } := (sb.2 _ (Nat.ne_of_gt hel)).trans hT
    have new : ObjOk X.prog X.w (upd H s.heap.objs.size (tupC [.int i tk, y] [.int (i : Nat), x])) h2 s.heap.objs.size (tupC [.int i tk, y] [.int (i : Nat), x]) :=
      tupC_ok (by show 2 ≤ sizeLine; decide) (.cons ⟨_, rfl⟩ (.cons ru .nil)) hT2
    have I1 := I.turnedNew (ch := [e, it]) (T := s.heap.objs.size) (t' := tk + 1) (ob := tupC [.int i tk, y] [.int (i : Nat), x]) (h' := h2)
      (fun b ob hb q => (sb.2 b (fun z => hb (by simp [z]))).trans (hk b ob (fun z => hb (by simp [z])) (fun z => hb (by simp [z])) q)) hf (Nat.le_refl _) new
    refine ⟨.ref s.heap.objs.size, _, I1, rfl, ⟨_, x, _, rfl, I.hok.fresh (Nat.le_refl _), rfl, fun ys hy' => by rw [I.tuple_inj hy' hq]; exact hx⟩, ⟨⟨y, ?_⟩, st'.1.at fun o q => (sb.2 it (Ne.symm n1)).trans q, n1, n2⟩, fun b hb => ?_⟩
    · have e1 : ((i + 1 : Nat) : Int) = (i : Int) + 1 := by omega
      rw [e1]; exact he2
    · have lb : b < s.heap.objs.size := by
        rcases List.mem_cons.mp hb with z | hb
        · subst z; exact hel
        · cases List.mem_singleton.mp hb; exact hil
      rw [upd_ne (Nat.ne_of_lt lb)]
      exact (hf b hb).1
  done := by
    intro X hP hw hK hc i pins s σ H E I hf st ⟨xs, hq, hx⟩
    subst hP hw hK
    obtain ⟨⟨old, he⟩, hit, n1, n2⟩ := st
    obtain ⟨its, rv, p, hz⟩ := I.tuple hq
    have D : Draws X.prog X.w X.A.in1 it [it, a] i (fun _ _ => True) (fun j h => j = i ∧ h.IsTupleIter it a i ∧ h.IsTuple a its.toArray) :=
      { live := fun _ _ st => let ⟨o, ho, _⟩ := st.2.1; ⟨o, ho⟩
        frame := fun _ _ _ st hk => ⟨st.1, st.2.1.at fun o e => hk it (by simp) o e, st.2.2.at fun o e => hk a (by simp) o e⟩
        item := fun j s Q E hi st _ => absurd (show j = i from st.1) (Nat.ne_of_lt hi)
        done := fun s Q E st hE => wpAny_nextOf_tuple_end (show X.A.in1.handled = none from I.ok.hd hc) st.2.1 st.2.2 (by have := rv.length; simp; omega) hE }
    obtain ⟨f0, f1, f2, f3, f4, f5⟩ := hf it (by simp)
    exact wpAny_pyNext_enum_endD D he ⟨rfl, hit, p⟩ fun h' eb => ⟨rfl, I.turned (t' := s.toks) (fun b o hb q => eb b o hb q) f0 f1 f3 f4 f5⟩
  self := fun A i s Q E st h => by
    obtain ⟨⟨_, he⟩, _⟩ := st
    exact wpAny_pyIter_enum he h

def iEnumT (K : PySem.W.Frag) (ta : TE) : TI := fun σ H R => ta σ H fun v H1 => ∃ a xs, v = .ref a ∧ SqT K H1 a xs ∧ R (IteT K a) H1
theorem pi_enumT {X : Cx} {e : Expr} {ta : TE} {p pos tpos : Pos} {elts : List Expr} {kk : Nat} (hg : Gl X "enumerate") (hm : X.mg "enumerate" = none) (ha : PE X e ta) (hs : starEach [e] X.env = (false, eval e X.env) :: starEach [] X.env := by rfl) :
    PI X (.Tuple elts kk tpos) (.Call (.Name "enumerate" p) [e] [] pos) (iEnumT X.K ta) := by
  refine ⟨fun pins s σ H R I h => PyProof.Rows.Call_ (ld_blt I hg hm PyProof.Rows.boot_enumerate (PyProof.Rows.callWith_type1 (PyProof.Rows.args_cons (thn (ha.run pins s σ H _ I h) fun v s1 ⟨x, H1, I1, r1, q1⟩ => PyProof.Rows.args_nil ?_) hs) hs rfl))⟩
  obtain ⟨a, xs, rfl, hq, q⟩ := q1
  cases r1
  obtain ⟨its, rv, p', hz⟩ := I1.tuple hq
  have al : a < s1.heap.objs.size := by obtain ⟨o, ho, _⟩ := p'; exact Heap.lt_size ho
  refine call_enumT p' fun h' he hit hk => wpAny_pyIter_enum he ?_
  have I2 : Inv X pins σ H1 { s1 with heap := h' } := I1.kept (t' := s1.toks) hk
  refine ⟨s1.heap.objs.size + 1, [s1.heap.objs.size + 1, s1.heap.objs.size], _, _, H1, rfl, I2, turn_enumT a (s1.heap.objs.size + 1) s1.heap.objs.size, ⟨⟨.none, he⟩, hit, Nat.succ_ne_self _, Nat.ne_of_lt al⟩, fun b hb => ?_, q⟩
  have hle : s1.heap.objs.size ≤ b := by
    rcases List.mem_cons.mp hb with z | hb
    · subst z; exact Nat.le_add_right _ _
    · cases List.mem_singleton.mp hb; exact Nat.le_refl _
  exact I1.fpOk hle (I1.hok.fresh hle)
/-- the pairs of an enumerate -/
def enumD (ds : List D) : List D := ds.mapIdx fun i d => .tup [.int (i : Nat), d]
theorem walks_enumT {K : PySem.W.Frag} {F0 : Hp} {a : Addr} {vs : List V} {ds : List D} (e : SqT K F0 a vs) (r : Reps K F0 vs ds) : Walks K (IteT K a) (enumD ds) F0 := by
  intro i F H s1 s2
  have q : SqT K H a vs := same_sqT s2.sm (same_sqT s1 e)
  have r' := r.mono s1
  refine ⟨fun d hd => ?_, fun hl => ⟨vs, q, by rw [r.length]; unfold enumD at hl; rwa [List.length_mapIdx] at hl⟩⟩
  have hd' : ∃ d0, ds[i]? = some d0 ∧ d = .tup [.int (i : Nat), d0] := by
    unfold enumD at hd
    rw [List.getElem?_mapIdx] at hd
    cases z : ds[i]? with
    | none => rw [z] at hd; cases hd
    | some d0 => rw [z] at hd; exact ⟨d0, rfl, (Option.some.inj hd).symm⟩
  obtain ⟨d0, e0, rfl⟩ := hd'
  obtain ⟨v, v1, v2⟩ := r'.get e0
  refine ⟨⟨vs, v, q, v1⟩, fun x H' ⟨T, y, us, h1, h2, h3, h4⟩ => ?_⟩
  subst h1 h3
  have := (h4 vs q).symm.trans v1
  cases this
  have al := upd_alc (o := tupC us [.int (i : Nat), v]) s2 h2
  exact ⟨_, al, .tup ⟨_, upd_same⟩ (.cons (.int _) (.cons (v2.mono (al.same s2)) .nil))⟩
def mEnT (m : ME) : MA := fun ρ => (m ρ).bind fun d ρ1 => match d with | .tup ds => .ok (enumD ds) ρ1 | _ => .no
theorem kv_enumT {X : Cx} {ks : List Sh} {W : WX} {e : Expr} {te : TE} {me : ME} {p pos tpos : Pos} {elts : List Expr} {kk : Nat} (K : PySem.W.Frag) (hK : X.K = K) (h : EV X ks W e .leaf te me) (hm : X.mg "enumerate" = none) (hg : Gl X "enumerate" := by rfl)
    (hs : starEach [e] X.env = (false, eval e X.env) :: starEach [] X.env := by rfl) : IV X ks W (.Tuple elts kk tpos) (.Call (.Name "enumerate" p) [e] [] pos) (iEnumT K te) (mEnT me) := by
  subst hK
  refine ⟨pi_enumT hg hm h.pe hs, fun ρ σ F H fp Q α Ok f r hok hn hx k => ?_⟩
  unfold mEnT at hok
  rw [bind_assoc] at hok
  refine h.sd.go r (Ok := Ok) hok hn hx fun d ρ1 v F1 H1 fp1 h1 r1 x1 p1 => ?_
  cases d with
  | tup ds =>
    cases p1 with
    | tup q1 q2 => exact ⟨_, _, rfl, (q1.mono r1.sub.sm).sq X.K, k _ ρ1 _ F1 H1 fp1 h1 r1 x1 (walks_enumT (q1.sq X.K) q2)⟩
  | _ => exact (hn h1).elim

/-! ### count of a list -/
def mCnt (mo : MO) (m : ME) : ME := fun ρ => (mo ρ).bind fun o ρ1 => match o.get ρ1 with
  | some (.lst _) => (m ρ1).bind fun e ρ2 => (match o.get ρ2, e with
    | some (.lst ds), .str z => (match asStrs ds with | some ys => .ok (.int (ys.count z : Nat)) ρ2 | none => .no)
    | _, _ => .no)
  | _ => .no
theorem ev_cnt {X : Cx} {ks : List Sh} {W : WX} {a c : Expr} {ta tc : TE} {mo : MO} {m : ME} {apos cpos : Pos} (K : PySem.W.Frag) (hK : X.K = K) (ho : EO X ks W a ta mo) (hc : EV X ks W c .leaf tc m)
    (hbase : attributeBase a "count" X.env (eval a X.env) = eval a X.env := by rfl)
    (hfew : ((backTo cpos (starEach [c] X.env)).all (fun x => !x.1) && (backToKw cpos (keywordEach [] X.env)).all (fun x => x.1.isSome)
      && decide (([c] : List Expr).length + ([] : List Keyword).length + (if ([] : List Keyword).isEmpty then 0 else 1) < 30)) = true := by rfl)
    (hline : (apos.endLine == cpos.line) = true := by rfl) (hs : starEach [c] X.env = (false, eval c X.env) :: starEach [] X.env := by rfl) (hpl : (backTo cpos (starEach [] X.env)).any (·.1) = false := by rfl) :
    EV X ks W (.Call (.Attribute a "count" apos) [c] [] cpos) .leaf (tBM K "list" (rCnt K) ta (tCons tc tNil)) (mCnt mo m) := by
  subst hK
  refine ⟨pe_bm PySem.F.plainAttrs_list PySem.F.slot_list_count PySem.F.type_list_count mt_cnt ho.pe (pa_cons hc.pe pa_nil hs) hbase hfew hline hs hpl, fun ρ σ F H fp Q r0 hok => ?_⟩
  unfold mCnt at hok
  refine ho.sd.go r0 (Ok := OkE (bd X ks W) .leaf F H fp σ Q) hok (fun z => z) (fun _ _ z => z) fun o ρ1 v F1 H1 fp1 h1 r1 x1 o1 => ?_
  split at h1
  · rename_i ds0 e0
    obtain ⟨p, vs, rfl, q1, q2⟩ := (o1.vw r1 e0).lstE r1.sub
    refine ⟨.inl ⟨rfl, _, .inl (.inl q1)⟩, ?_⟩
    refine hc.sd.go r1 (Ok := OkE (bd X ks W) .leaf F1 H1 fp1 σ Q) (h1.ext x1) (fun z => z) (fun _ _ z => z) fun e ρ2 u F2 H2 fp2 h2 r2 x2 o2 => ?_
    have o1' := o1.mono (r1.same x2)
    split at h2
    · rename_i ds z e1
      split at h2
      · rename_i ys ea
        obtain ⟨p', vs', ep, q3, q4⟩ := (o1'.vw r2 e1).lstE r2.sub
        cases ep
        obtain ⟨ev, _⟩ := reps_asStrs q4 ea
        subst ev
        have eu : u = .str z := by cases o2; rfl
        subst eu
        exact ⟨p, ys, z, rfl, rfl, .inl (.inl q3), ((h2.ext x2).done r2).here r2.sub (.int _)⟩
      · exact (show False from h2).elim
    · exact (show False from h2).elim
  · exact (show False from h1).elim
end VL
/-! V19: a dict of dicts, owned. -/
namespace VL
open PySem PySem.Spec L2

def setAt {κ : Type} [DecidableEq κ] : List (κ × D) → κ → D → List (κ × D)
  | [], _, _ => []
  | (x, d) :: r, k, d' => if x = k then (x, d') :: r else (x, d) :: setAt r k d'
theorem look_at {κ : Type} [DecidableEq κ] {k : κ} {d : D} : ∀ {ds : List (κ × D)}, look ds k = some d → ∃ j, (ds.map Prod.snd)[j]? = some d ∧
    (∀ (kvs : List (κ × V)) (v : V), kvs.map Prod.fst = ds.map Prod.fst → (kvs.map Prod.snd)[j]? = some v → valV kvs k = some v) ∧ ∀ d', (setAt ds k d').map Prod.fst = ds.map Prod.fst ∧ (setAt ds k d').map Prod.snd = (ds.map Prod.snd).set j d'
  | [], h => by cases h
  | (x, e) :: r, h => by
    unfold look at h
    rw [List.find?_cons] at h
    by_cases q : x = k
    · subst q
      rw [decide_eq_true (by rfl)] at h
      cases h
      refine ⟨0, rfl, fun kvs v ek ev => ?_, fun d' => ?_⟩
      · cases kvs with
        | nil => cases ek
        | cons y kvs =>
          have e1 : y.1 = x := (List.cons.inj ek).1
          unfold valV
          rw [List.find?_cons, decide_eq_true e1]
          exact ev
      · unfold setAt
        rw [if_pos rfl]
        exact ⟨rfl, rfl⟩
    · rw [decide_eq_false q] at h
      obtain ⟨j, h1, h2, h3⟩ := look_at (ds := r) h
      refine ⟨j + 1, by simpa using h1, fun kvs v ek ev => ?_, fun d' => ?_⟩
      · cases kvs with
        | nil => cases ek
        | cons y kvs =>
          have e1 : y.1 = x := (List.cons.inj ek).1
          unfold valV
          rw [List.find?_cons, decide_eq_false (by rw [e1]; exact q)]
          exact h2 kvs v (List.cons.inj ek).2 (by simpa using ev)
      · obtain ⟨q1, q2⟩ := h3 d'
        unfold setAt
        rw [if_neg q]
        exact ⟨by rw [List.map_cons, List.map_cons, q1], by rw [List.map_cons, List.map_cons, q2]; rfl⟩
section
variable {K : PySem.W.Frag} {F H : Hp} {s : Sh}
theorem ORs.append : ∀ {vs ws : List V} {ds es : List D} {f g : List Addr}, ORs K F H s vs ds f → ORs K F H s ws es g → ORs K F H s (vs ++ ws) (ds ++ es) (f ++ g)
  | _, _, _, _, _, _, .nil, r => r
  | _, _, _, _, _, _, .cons (f := f0) o t, r => by
    rw [List.append_assoc]
    exact .cons o (ORs.append t r)
theorem ORs.split : ∀ {vs : List V} {ds : List D} {fp : List Addr} {j : Nat} {d : D}, ORs K F H s vs ds fp → ds[j]? = some d →
    ∃ v f g, vs[j]? = some v ∧ OR K F H s v d f ∧ fp.Perm (f ++ g) ∧ ∀ H' d' f', (∀ a ∈ g, H' a = H a) → OR K F H' s v d' f' → ∃ fp', ORs K F H' s vs (ds.set j d') fp' ∧ fp'.Perm (f' ++ g)
  | _, _, _, _, _, .nil, e => by simp at e
  | _, _, _, 0, _, .cons (v := v) (f := f0) (g := g0) o t, e => by
    simp at e
    subst e
    exact ⟨v, f0, g0, rfl, o, .rfl, fun H' d' f' h o' => ⟨f' ++ g0, .cons o' (t.frame (fun _ _ x => x) fun a m => ⟨(t.own a m).1, h a m⟩), .rfl⟩⟩
  | _, _, _, j + 1, _, .cons (f := f0) o t, e => by
    obtain ⟨v, f, g, h1, h2, h3, h4⟩ := ORs.split (j := j) t (by simpa using e)
    refine ⟨v, f, f0 ++ g, by simpa using h1, h2, ?_, fun H' d' f' h o' => ?_⟩
    · refine (List.Perm.append_left f0 h3).trans ?_
      rw [← List.append_assoc, ← List.append_assoc]
      exact List.Perm.append_right g List.perm_append_comm
    · obtain ⟨fp', q1, q2⟩ := h4 H' d' f' (fun a m => h a (List.mem_append_right _ m)) o'
      refine ⟨f0 ++ fp', .cons (o.frame (fun _ _ x => x) fun a m => ⟨(o.own a m).1, h a (List.mem_append_left _ m)⟩) q1, ?_⟩
      refine (List.Perm.append_left f0 q2).trans ?_
      rw [← List.append_assoc, ← List.append_assoc]
      exact List.Perm.append_right g List.perm_append_comm
end
section
variable {K : PySem.W.Frag} {ks : List Sh} {F H : Hp} {ρ : DEnv} {σ : St} {fp : List Addr}
abbrev dd : Sh := .dic (.dic .leaf)
/-- an inner dict, and what stands behind a change of it -/
theorem Rel.ownN {i : Nat} {ds es : List (Key × D)} {k : Key} (r : Rel K ks F H ρ σ fp) (hk : ks[i]? = some dd) (e : own ρ i = some (.dK ds)) (hl : look ds k = some (.dK es)) :
    ∃ p kvs q evs, σ[i]? = some (some (.ref p)) ∧ H p = some (.dK kvs) ∧ valV kvs k = some (.ref q) ∧ H q = some (.dK evs) ∧ evs.map Prod.fst = es.map Prod.fst ∧ Reps K F (evs.map Prod.snd) (es.map Prod.snd) ∧
      ∀ (evs' : List (Key × V)) (es' : List (Key × D)), evs'.map Prod.fst = es'.map Prod.fst → Reps K F (evs'.map Prod.snd) (es'.map Prod.snd) →
        ∃ gp, Rel K ks F (upd H q (.dK evs')) (ρ.set i (some (.dK (setAt ds k (.dK es'))))) σ gp ∧ Ext F H fp F (upd H q (.dK evs')) gp := by
  obtain ⟨v, f, g, s1, o1, sl, pm⟩ := r.sl.split hk (getE e)
  obtain ⟨j, l1, l2, l3⟩ := look_at hl
  cases o1 with
  | @dK _ p kvs _ fi nF eH ek q =>
    obtain ⟨w, fj, gj, w1, w2, w3, w4⟩ := q.split l1
    cases w2 with
    | @dK _ q evs _ fe nq eq ekq qe =>
      obtain ⟨q1, rfl⟩ := qe.leafE
      have nd : (p :: fi ++ g).Nodup := pm.nodup_iff.mp r.nd
      have pin : ∀ a ∈ p :: fi, a ∈ fp := fun a m => pm.symm.subset (List.mem_append_left _ m)
      have qfi : q ∈ fi := w3.symm.subset (by simp)
      have nd1 := List.nodup_append.mp nd
      have ndp := List.nodup_cons.mp nd1.1
      have pq : p ≠ q := fun z => ndp.1 (by rw [z]; exact qfi)
      have nd2 : (q :: gj).Nodup := w3.nodup_iff.mp ndp.2
      have qg : ∀ a ∈ g, a ≠ q := fun a m z => nd1.2.2 q (List.mem_cons_of_mem _ qfi) a m z.symm
      have qj : ∀ a ∈ gj, a ≠ q := fun a m z => (List.nodup_cons.mp nd2).1 (by rw [← z]; exact m)
      refine ⟨p, kvs, q, evs, s1, eH, l2 kvs _ ek w1, eq, ekq, q1, fun evs' es' ek' q' => ?_⟩
      obtain ⟨fi', x1, x2⟩ := w4 (upd H q (.dK evs')) (.dK es') [q] (fun a m => upd_ne (qj a m)) (.dK nq upd_same ek' (ORs.ofReps q'))
      have x3 : fi'.Perm fi := x2.trans w3.symm
      obtain ⟨y1, y2⟩ := l3 (.dK es')
      have o2 : OR K F (upd H q (.dK evs')) dd (.ref p) (.dK (setAt ds k (.dK es'))) (p :: fi') := .dK nF ((upd_ne pq).trans eH) (ek.trans y1.symm) (by rw [y2]; exact x1)
      have sl2 : RelL K F (upd H q (.dK evs')) ks (ρ.set i none) σ g := sl.frame (fun _ _ x => x) fun a m => ⟨(sl.own a m).1, upd_ne (qg a m)⟩
      obtain ⟨gp, r2, p2⟩ := RelL.join o2 sl2 hk s1
      have p3 : gp.Perm (p :: fi ++ g) := p2.trans ((List.Perm.cons p x3).append_right g)
      refine ⟨gp, ⟨sub_updH r.sub nq (by intro _ z; cases z), p3.nodup_iff.mpr nd, r2⟩, ⟨fun a o x n => ?_, fun a m => .inl (pm.symm.subset (p3.subset m))⟩⟩
      · exact ⟨(upd_ne fun (z : a = q) => n (by rw [z]; exact pin q (List.mem_cons_of_mem _ qfi))).trans x, rfl⟩
/-- a new dict put in -/
theorem Rel.addN {i : Nat} {ds : List (Key × D)} {k : Key} {v : V} {d : D} {fv : List Addr} (r : Rel K ks F H ρ σ fp) (hk : ks[i]? = some dd) (e : own ρ i = some (.dK ds)) (hl : look ds k = none) (o : OR K F H (.dic .leaf) v d fv) (ndv : (fp ++ fv).Nodup) :
    ∃ p kvs, σ[i]? = some (some (.ref p)) ∧ H p = some (.dK kvs) ∧ kvs.length = ds.length ∧ putK kvs k v = kvs ++ [(k, v)] ∧
        ∃ gp, Rel K ks F (upd H p (.dK (kvs ++ [(k, v)]))) (ρ.set i (some (.dK (ds ++ [(k, d)])))) σ gp ∧ Ext F H (fp ++ fv) F (upd H p (.dK (kvs ++ [(k, v)]))) gp := by
  obtain ⟨w, f, g, s1, o1, sl, pm⟩ := r.sl.split hk (getE e)
  cases o1 with
  | @dK _ p kvs _ fi nF eH ek q =>
    have nd : (p :: fi ++ g).Nodup := pm.nodup_iff.mp r.nd
    have pin : ∀ a ∈ p :: fi, a ∈ fp := fun a m => pm.symm.subset (List.mem_append_left _ m)
    have nd1 := List.nodup_append.mp nd
    have ndp := List.nodup_cons.mp nd1.1
    have nv := List.nodup_append.mp ndv
    have pg : ∀ a ∈ g, a ≠ p := fun a m z => nd1.2.2 p List.mem_cons_self a m z.symm
    have pf : ∀ a ∈ fi, a ≠ p := fun a m z => ndp.1 (by rw [← z]; exact m)
    have pv : ∀ a ∈ fv, a ≠ p := fun a m z => nv.2.2 p (pin p List.mem_cons_self) a m z.symm
    have lk : kvs.length = ds.length := by have := congrArg List.length ek; simpa using this
    have hput : putK kvs k v = kvs ++ [(k, v)] := by
      unfold putK
      rw [any_key k ek]
      have : (ds.any fun kv => decide (kv.1 = k)) = false := by
        rw [List.any_eq_false]
        intro x m hx
        unfold look at hl
        cases z : ds.find? fun kv => decide (kv.1 = k) with
        | none => exact absurd hx (List.find?_eq_none.mp z x m)
        | some y => rw [z] at hl; cases hl
      rw [this, if_neg Bool.false_ne_true]
    have o2 : OR K F (upd H p (.dK (kvs ++ [(k, v)]))) dd (.ref p) (.dK (ds ++ [(k, d)])) (p :: (fi ++ (fv ++ []))) := .dK nF upd_same (by rw [List.map_append, List.map_append, ek]; rfl) (by
      rw [List.map_append, List.map_append]
      exact ORs.append (q.frame (fun _ _ x => x) fun a m => ⟨(q.own a m).1, upd_ne (pf a m)⟩) (.cons (o.frame (fun _ _ x => x) fun a m => ⟨(o.own a m).1, upd_ne (pv a m)⟩) .nil))
    rw [List.append_nil] at o2
    have sl2 : RelL K F (upd H p (.dK (kvs ++ [(k, v)]))) ks (ρ.set i none) σ g := sl.frame (fun _ _ x => x) fun a m => ⟨(sl.own a m).1, upd_ne (pg a m)⟩
    obtain ⟨gp, r2, p2⟩ := RelL.join o2 sl2 hk s1
    have p3 : gp.Perm (fp ++ fv) := by
      refine p2.trans (List.Perm.trans ?_ (pm.symm.append_right fv))
      show (p :: (fi ++ fv) ++ g).Perm (p :: fi ++ g ++ fv)
      rw [List.cons_append, List.cons_append, List.cons_append]
      refine List.Perm.cons p ?_
      rw [List.append_assoc, List.append_assoc]
      exact List.Perm.append_left fi List.perm_append_comm
    refine ⟨p, kvs, s1, eH, lk, hput, gp, ⟨sub_updH r.sub nF (by intro _ z; cases z), p3.nodup_iff.mpr ndv, r2⟩, ⟨fun a o x n => ?_, fun a m => .inl (p3.subset m)⟩⟩
    · exact ⟨(upd_ne fun (z : a = p) => n (by rw [z]; exact List.mem_append_left _ (pin p List.mem_cons_self))).trans x, rfl⟩
end
end VL
/-! V20: statements and tests over an owned dict of dicts. -/
namespace VL
open PySem PySem.Spec L2

section
variable {X : Cx} {ks : List Sh} {W : WX} {rsh : Sh} {fx : Nat} {a c value : Expr} {i j : Nat} {x y : Str} {p p1 p2 pos pos1 pos2 pos3 : Pos} {ta tc tv : TE} {ma mc mv : ME}
abbrev varOf (X : Cx) (i : Nat) (x : Str) : Prop := X.N[i]? = some x ∧ Vis X.env.scope x ∧ (x == ("__debug__" : Str)) = false ∧ (x == ("__classdict__" : Str)) = false
theorem pe_varOf (h : varOf X i x) : PE X (.Name x pos) (tVar i) := pe_var h.1 h.2.1 h.2.2.1 h.2.2.2
/-- the inner dict at a key, now -/
def inner (ρ : DEnv) (i : Nat) (k : D) : Option (List (Key × D) × Key × List (Key × D)) := match own ρ i, keyK k with
  | some (.dK ds), some q => (match look ds q with | some (.dK es) => some (ds, q, es) | _ => none)
  | _, _ => none
theorem innerE {ρ : DEnv} {k : D} {ds es : List (Key × D)} {q : Key} (h : inner ρ i k = some (ds, q, es)) : own ρ i = some (.dK ds) ∧ keyK k = some q ∧ look ds q = some (.dK es) := by
  unfold inner at h
  split at h
  · rename_i ds' q' e1 e2
    split at h
    · rename_i es' e3
      cases h
      exact ⟨e1, e2, e3⟩
    · cases h
  · cases h
/-- x in found[k], x not in found[k] -/
def mInN (neg : Bool) (i : Nat) (ma mc : ME) : ME := fun ρ => (ma ρ).bind fun d ρ1 => (R.of (own ρ1 i) ρ1).bind fun _ _ => (mc ρ1).bind fun k ρ2 => match inner ρ2 i k, keyK d with
  | some (_, _, es), some q => .ok (.bl (if neg then !(look es q).isSome else (look es q).isSome)) ρ2
  | _, _ => .no
theorem snd_inN {B : Bd} (neg : Bool) (hk : B.ks[i]? = some dd) (ha : SndE B .leaf ta ma) (hc : SndE B .leaf tc mc) : SndE B .leaf (tOp (rInDk neg) ta (tOp rIxD (tVar i) tc)) (mInN neg i ma mc) := by
  intro ρ σ F H fp Q r hok
  unfold mInN at hok
  refine ha.go r (Ok := OkE B .leaf F H fp σ Q) hok (fun z => z) (fun _ _ z => z) fun d ρ1 v F1 H1 fp1 h1 r1 x1 q1 => ?_
  cases e1 : own ρ1 i with
  | none => rw [e1] at h1; exact (show False from h1).elim
  | some d1 =>
    rw [e1] at h1
    obtain ⟨v0, f0, g0, s1, _, _, _⟩ := r1.sl.split hk (getE e1)
    refine ⟨v0, s1, ?_⟩
    refine hc.go r1 (Ok := OkE B .leaf F1 H1 fp1 σ Q) (h1.ext x1) (fun z => z) (fun _ _ z => z) fun k ρ2 u F2 H2 fp2 h2 r2 x2 q2 => ?_
    split at h2
    · rename_i ds q es qa e2 e3
      obtain ⟨n1, n2, n3⟩ := innerE e2
      obtain ⟨p, kvs, qq, evs, s2, eH, ev, eq, ek, rk, _⟩ := r2.ownN hk n1 n3
      rw [s1] at s2
      cases s2
      have eu : u = kV q := keyKE (F := F2) (H := F2) (.rep q2) n2
      have evv : v = kV qa := keyKE (F := F1) (H := F1) (.rep q1) e3
      subst eu evv
      have g1 : DGet H2 p (kV q) (valV kvs q) := DGet.k eH
      rw [ev] at g1
      refine ⟨p, _, rfl, g1, ?_⟩
      have g2 : DGet H2 qq (kV qa) (valV evs qa) := DGet.k eq
      refine ⟨qq, _, rfl, g2, ?_⟩
      have ls := look_some qa ek rk
      rw [ls]
      exact ((h2.ext x2).done r2).here r2.sub (.bl _)
    · exact (show False from h2).elim
theorem ev_ninN (hu : X.A.units + 1 < cLine) (ha : EV X ks W a .leaf ta ma) (hv : varOf X i x) (hc : EV X ks W c .leaf tc mc) (hk : ks[i]? = some dd := by rfl) (hm : behindInMarks .NotIn (.Subscript (.Name x p1) c p2) = false := by rfl) (hx : PlainIx c := by exact fun _ _ => rfl) :
    EV X ks W (.Compare a [.NotIn] [.Subscript (.Name x p1) c p2] pos) .leaf (tOp (rInDk true) ta (tOp rIxD (tVar i) tc)) (mInN true i ma mc) :=
  ⟨pe_cmpR (op_ninDk hu) ha.pe (pe_ix (ix_dict hu) (pe_varOf hv) hc.pe hx) hm, snd_inN (B := bd X ks W) true hk ha.sd hc.sd⟩
theorem ev_inN (hu : X.A.units + 1 < cLine) (ha : EV X ks W a .leaf ta ma) (hv : varOf X i x) (hc : EV X ks W c .leaf tc mc) (hk : ks[i]? = some dd := by rfl) (hm : behindInMarks .In (.Subscript (.Name x p1) c p2) = false := by rfl) (hx : PlainIx c := by exact fun _ _ => rfl) :
    EV X ks W (.Compare a [.In] [.Subscript (.Name x p1) c p2] pos) .leaf (tOp (rInDk false) ta (tOp rIxD (tVar i) tc)) (mInN false i ma mc) :=
  ⟨pe_cmpR (op_inDk hu) ha.pe (pe_ix (ix_dict hu) (pe_varOf hv) hc.pe hx) hm, snd_inN (B := bd X ks W) false hk ha.sd hc.sd⟩
theorem et_ninN (hu : X.A.units + 1 < cLine) (ha : EV X ks W a .leaf ta ma) (hv : varOf X i x) (hc : EV X ks W c .leaf tc mc) (hk : ks[i]? = some dd := by rfl) (hm : behindInMarks .NotIn (.Subscript (.Name x p1) c p2) = false := by rfl) (hx : PlainIx c := by exact fun _ _ => rfl) :
    ET X ks W (.Compare a [.NotIn] [.Subscript (.Name x p1) c p2] pos) (tTest (tOp (rInDk true) ta (tOp rIxD (tVar i) tc))) (mTest (mInN true i ma mc)) :=
  ⟨pt_cmpR (op_ninDk hu) ha.pe (pe_ix (ix_dict hu) (pe_varOf hv) hc.pe hx) hm, snd_test (snd_inN (B := bd X ks W) true hk ha.sd hc.sd)⟩
theorem et_inN (hu : X.A.units + 1 < cLine) (ha : EV X ks W a .leaf ta ma) (hv : varOf X i x) (hc : EV X ks W c .leaf tc mc) (hk : ks[i]? = some dd := by rfl) (hm : behindInMarks .In (.Subscript (.Name x p1) c p2) = false := by rfl) (hx : PlainIx c := by exact fun _ _ => rfl) :
    ET X ks W (.Compare a [.In] [.Subscript (.Name x p1) c p2] pos) (tTest (tOp (rInDk false) ta (tOp rIxD (tVar i) tc))) (mTest (mInN false i ma mc)) :=
  ⟨pt_cmpR (op_inDk hu) ha.pe (pe_ix (ix_dict hu) (pe_varOf hv) hc.pe hx) hm, snd_test (snd_inN (B := bd X ks W) false hk ha.sd hc.sd)⟩
/-- list(found[k]) -/
def keyOk : Key → Bool
  | .inl _ => true
  | .inr z => asc z
def keysD (es : List (Key × D)) : List D := es.map fun kv => keyD kv.1
def keysOk (es : List (Key × D)) : Bool := es.all fun kv => keyOk kv.1
theorem keys_rep {K : PySem.W.Frag} {F : Hp} : ∀ {evs : List (Key × V)} {es : List (Key × D)}, evs.map Prod.fst = es.map Prod.fst → keysOk es = true → Reps K F (evs.map fun kv => kV kv.1) (keysD es)
  | [], [], _, _ => .nil
  | [], _ :: _, e, _ => by cases e
  | _ :: _, [], e, _ => by cases e
  | (k, v) :: evs, (k', d) :: es, e, h => by
    have e1 : k = k' := (List.cons.inj e).1
    subst e1
    unfold keysOk at h
    rw [List.all_cons, Bool.and_eq_true] at h
    refine .cons ?_ (keys_rep (List.cons.inj e).2 h.2)
    cases k with
    | inl n => exact .int n
    | inr z => exact .str z h.1
def mListN (i : Nat) (mc : ME) : ME := fun ρ => (R.of (own ρ i) ρ).bind fun _ _ => (mc ρ).bind fun k ρ1 => match inner ρ1 i k with
  | some (_, _, es) => if keysOk es = true then .ok (.lst (keysD es)) ρ1 else .no
  | none => .no
theorem snd_listN {B : Bd} (hk : B.ks[i]? = some dd) (hc : SndE B .leaf tc mc) : SndE B (.lst .leaf) (tCB rListD (tCons (tOp rIxD (tVar i) tc) tNil)) (mListN i mc) := by
  intro ρ σ F H fp Q r hok
  unfold mListN at hok
  cases e1 : own ρ i with
  | none => rw [e1] at hok; exact (show False from hok).elim
  | some d1 =>
    rw [e1] at hok
    obtain ⟨v0, f0, g0, s1, _, _, _⟩ := r.sl.split hk (getE e1)
    refine ⟨v0, s1, ?_⟩
    refine hc.go r (Ok := OkE B (.lst .leaf) F H fp σ Q) hok (fun z => z) (fun _ _ z => z) fun k ρ2 u F2 H2 fp2 h2 r2 x2 q2 => ?_
    split at h2
    · rename_i ds q es e2
      by_cases ko : keysOk es = true
      · rw [if_pos ko] at h2
        obtain ⟨n1, n2, n3⟩ := innerE e2
        obtain ⟨p, kvs, qq, evs, s2, eH, ev, eq, ek, rk, _⟩ := r2.ownN hk n1 n3
        rw [s1] at s2
        cases s2
        have eu : u = kV q := keyKE (F := F2) (H := F2) (.rep q2) n2
        subst eu
        have g1 : DGet H2 p (kV q) (valV kvs q) := DGet.k eH
        rw [ev] at g1
        exact ⟨p, _, rfl, g1, qq, evs, rfl, eq, fun l n => ((h2.ext x2).done r2).newL r2.sub (keys_rep ek ko) n⟩
      · rw [if_neg ko] at h2; exact (show False from h2).elim
    · exact (show False from h2).elim
theorem ev_listN (hcalm : X.calm = true) (hu : X.A.units + 1 < cLine) (hv : varOf X i x) (hc : EV X ks W c .leaf tc mc) (hm : X.mg "list" = none) (hk : ks[i]? = some dd := by rfl) (hg : Gl X "list" := by rfl) (hx : PlainIx c := by exact fun _ _ => rfl)
    (he : starEach [.Subscript (.Name x p1) c p2] X.env = (false, eval (.Subscript (.Name x p1) c p2) X.env) :: starEach [] X.env := by rfl) (hpl : (backTo pos (starEach [] X.env)).any (·.1) = false := by rfl) :
    EV X ks W (.Call (.Name "list" p) [.Subscript (.Name x p1) c p2] [] pos) (.lst .leaf) (tCB rListD (tCons (tOp rIxD (tVar i) tc) tNil)) (mListN i mc) :=
  ⟨pe_callTy (call_list_dK hcalm) hg hm PyProof.Rows.boot_list (pa_cons (pe_ix (ix_dict hu) (pe_varOf hv) hc.pe hx) pa_nil he) (by decide) (by decide) he hpl, snd_listN (B := bd X ks W) hk hc.sd⟩
/-- found[y] = a new dict -/
def mNewN (i j : Nat) (mv : ME) : MS := fun ρ => (mv ρ).bind fun d ρ1 => match own ρ1 i, own ρ1 j with
  | some (.dK ds), some k => (match keyK k with
    | some q => if (look ds q).isSome = true ∨ 16777216 ≤ ds.length then .no else .ok .nx (ρ1.set i (some (.dK (ds ++ [(q, d)]))))
    | none => .no)
  | _, _ => .no
theorem sv_newN (hu : X.A.units + 1 < cLine) (hvi : varOf X i x) (hvj : varOf X j y) (hv : EV X ks W value (.dic .leaf) tv mv) (hk : ks[i]? = some dd := by rfl) (hkj : ks[j]? = some .leaf := by rfl)
    (hs : swapsWith value (some (.Subscript (.Name x p) (.Name y p1) pos1)) pos.line X.env = pure false := by rfl) : SV X ks W rsh fx (.Assign [.Subscript (.Name x p) (.Name y p1) pos1] value pos) (sDPut (tVar i) (tVar j) tv) (mNewN i j mv) := by
  refine ⟨ps_dput hu (pe_varOf hvi) (pe_varOf hvj) hv.pe hs, fun ρ σ F H fp D r hok => hv.sd ρ σ F H fp _ r ?_⟩
  unfold mNewN at hok
  cases em : mv ρ with
  | no => rw [em] at hok; exact hok
  | ex e ρ1 => rw [em] at hok; exact OkS.x hok
  | ok d ρ1 =>
    rw [em, R.bind_ok] at hok
    intro v F1 H1 fp1 fv r1 nd x1 o1
    split at hok
    · rename_i ds k e1 e2
      split at hok
      · rename_i q e3
        by_cases hc : (look ds q).isSome = true ∨ 16777216 ≤ ds.length
        · rw [if_pos hc] at hok; exact (show False from hok).elim
        · rw [if_neg hc] at hok
          have hl : look ds q = none := by
            cases z : look ds q with
            | none => rfl
            | some w => exact absurd (.inl (by rw [z]; rfl)) hc
          obtain ⟨p, kvs, s1, eH, lk, hput, gp, r2, x2⟩ := r1.addN hk e1 hl o1 nd
          obtain ⟨u, fu, gu, s2, o2, _, _⟩ := r1.sl.split hkj (getE e2)
          obtain ⟨ru, _⟩ := o2.leafE
          have eu : u = kV q := keyKE (F := F1) (H := F1) (.rep ru) e3
          subst eu
          refine ⟨.ref p, s1, _, s2, p, _, rfl, DPut.k eH (by rw [lk, sizeLine_eq]; omega), ?_⟩
          rw [hput]
          exact hok σ F1 _ gp r2 (x1.trans x2) rfl
      · exact (show False from hok).elim
    · exact (show False from hok).elim
/-- found[c][y] = value -/
def mPutN (i j : Nat) (mc mv : ME) : MS := fun ρ => (mv ρ).bind fun v ρ1 => (R.of (own ρ1 i) ρ1).bind fun _ _ => (mc ρ1).bind fun k ρ2 => match inner ρ2 i k, own ρ2 j with
  | some (ds, q, es), some k2 => (match keyK k2 with
    | some q2 => if es.length < 16777216 then .ok .nx (ρ2.set i (some (.dK (setAt ds q (.dK (put es q2 v)))))) else .no
    | none => .no)
  | _, _ => .no
theorem sv_putN (hu : X.A.units + 1 < cLine) (hvi : varOf X i x) (hc : EV X ks W c .leaf tc mc) (hvj : varOf X j y) (hv : EV X ks W value .leaf tv mv) (hk : ks[i]? = some dd := by rfl) (hkj : ks[j]? = some .leaf := by rfl) (hx : PlainIx c := by exact fun _ _ => rfl)
    (hs : swapsWith value (some (.Subscript (.Subscript (.Name x p) c p2) (.Name y p1) pos1)) pos.line X.env = pure false := by rfl) :
    SV X ks W rsh fx (.Assign [.Subscript (.Subscript (.Name x p) c p2) (.Name y p1) pos1] value pos) (sDPut (tOp rIxD (tVar i) tc) (tVar j) tv) (mPutN i j mc mv) := by
  refine ⟨ps_dput hu (pe_ix (ix_dict hu) (pe_varOf hvi) hc.pe hx) (pe_varOf hvj) hv.pe hs, fun ρ σ F H fp D r hok => ?_⟩
  unfold mPutN at hok
  refine hv.sd.go r (Ok := OkS (bd X ks W) rsh fx F H fp σ D) hok (fun z => z) (fun _ _ z => z.x) fun w ρ1 v F1 H1 fp1 h1 r1 x1 q1 => ?_
  cases e1 : own ρ1 i with
  | none => rw [e1] at h1; exact (show False from h1).elim
  | some d1 =>
    rw [e1] at h1
    obtain ⟨v0, f0, g0, s1, _, _, _⟩ := r1.sl.split hk (getE e1)
    refine ⟨v0, s1, ?_⟩
    refine hc.sd.go r1 (Ok := OkS (bd X ks W) rsh fx F1 H1 fp1 σ D) (h1.ext x1 rfl) (fun z => z) (fun _ _ z => z.x) fun k ρ2 u F2 H2 fp2 h2 r2 x2 q2 => ?_
    have q1' := q1.mono (r1.same x2)
    split at h2
    · rename_i ds q es k2 e2 e3
      split at h2
      · rename_i qk e4
        by_cases hl : es.length < 16777216
        · rw [if_pos hl] at h2
          obtain ⟨n1, n2, n3⟩ := innerE e2
          obtain ⟨p, kvs, qq, evs, s2, eH, ev, eq, ek, rk, step⟩ := r2.ownN hk n1 n3
          rw [s1] at s2
          cases s2
          obtain ⟨u2, fu, gu, s3, o2, _, _⟩ := r2.sl.split hkj (getE e3)
          obtain ⟨ru, _⟩ := o2.leafE
          have eu2 : u2 = kV qk := keyKE (F := F2) (H := F2) (.rep ru) e4
          have eu : u = kV q := keyKE (F := F2) (H := F2) (.rep q2) n2
          subst eu eu2
          have g1 : DGet H2 p (kV q) (valV kvs q) := DGet.k eH
          rw [ev] at g1
          obtain ⟨gp, r3, x3⟩ := step _ _ (put_keys qk v w ek) (put_reps qk q1' ek rk)
          refine ⟨p, _, rfl, g1, _, s3, qq, _, rfl, DPut.k eq (by rw [put_len qk v w ek, sizeLine_eq]; exact hl), ?_⟩
          exact (h2.ext x2 rfl) σ F2 _ gp r3 x3 rfl
        · rw [if_neg hl] at h2; exact (show False from h2).elim
      · exact (show False from h2).elim
    · exact (show False from h2).elim
end
end VL
namespace VL
open PySem PySem.Spec L2
/-- {} to hold dicts -/
theorem ev_dnewN {X : Cx} {ks : List Sh} {W : WX} {pos : Pos} : EV X ks W (.Dict [] [] pos) dd tDNewK (mC (.dK [])) := by
  refine ⟨pe_dnewK, fun ρ σ F H fp Q r hok p np => ?_⟩
  have a := upd_alcH (o := .dK []) r.sub np
  have nF : F p = none := by
    cases e : F p with
    | none => rfl
    | some y => have q := r.sub _ _ e; rw [np] at q; cases q
  have hok : OkE (bd X ks W) dd F H fp σ Q (.ok (.dK []) ρ) := hok
  exact (hok.done r) _ _ _ [p] a (fun x m => by simp at m; subst m; exact np) (by simp) (.dK nF upd_same rfl .nil)
end VL
/-! V21: is, is not over truths. -/
namespace VL
open PySem PySem.Spec L2
def isBD : D → D → Option D
  | .bl a, .bl b => some (.bl (decide (a = b)))
  | _, _ => none
def notBD : D → D → Option D
  | .bl a, .bl b => some (.bl (!decide (a = b)))
  | _, _ => none
section
variable {K : PySem.W.Frag}
theorem s_isB : Op2 K .leaf (fun x y H Q => ∃ a b, x = .bl a ∧ y = .bl b ∧ Q (.bl (decide (a = b))) H) isBD := by
  intro F H x y d e z Q sm hx hy hf ok
  unfold isBD at hf
  split at hf
  · cases hf
    exact ⟨_, _, hx.blE, hy.blE, ok.here sm (.bl _)⟩
  · cases hf
theorem s_notB : Op2 K .leaf (fun x y H Q => ∃ a b, x = .bl a ∧ y = .bl b ∧ Q (.bl (!decide (a = b))) H) notBD := by
  intro F H x y d e z Q sm hx hy hf ok
  unfold notBD at hf
  split at hf
  · cases hf
    exact ⟨_, _, hx.blE, hy.blE, ok.here sm (.bl _)⟩
  · cases hf
end
@[simp] theorem d_isB (a b : Bool) : isBD (.bl a) (.bl b) = some (.bl (decide (a = b))) := rfl
@[simp] theorem d_notB (a b : Bool) : notBD (.bl a) (.bl b) = some (.bl (!decide (a = b))) := rfl
end VL
/-! V22: dict of a list of pairs. -/
namespace VL
open PySem PySem.Spec L2
theorem OkV.newK {K : PySem.W.Frag} {F H : Hp} {Q : VK} (s : Sub F H) {ds : List (Key × D)} {kvs : List (Key × V)} (h : OkV K (.dic .leaf) F H Q (.dK ds)) (e : kvs.map Prod.fst = ds.map Prod.fst) (r : Reps K F (kvs.map Prod.snd) (ds.map Prod.snd)) {p : Addr} (n : H p = none) : Q (.ref p) (upd H p (.dK kvs)) := by
  have a := upd_alcH (o := .dK kvs) s n
  have nF : F p = none := by
    cases e : F p with
    | none => rfl
    | some y => have q := s _ _ e; rw [n] at q; cases q
  exact h _ _ _ [p] a (fun x m => by simp at m; subst m; exact n) (by simp) (.dK nF upd_same e (ORs.ofReps r))
def pairD : D → Option (Key × D)
  | .tup [k, v] => (keyK k).bind fun q => some (q, v)
  | _ => none
def pairsD : List D → Option (List (Key × D))
  | [] => some []
  | d :: ds => (pairD d).bind fun p => (pairsD ds).bind fun ps => some (p :: ps)
def dictD : D → Option D
  | .lst ds => (pairsD ds).bind fun ps => some (.dK (putAll [] ps))
  | _ => none
section
variable {K : PySem.W.Frag}
theorem pairs_reps {F H : Hp} (sm : Sub F H) : ∀ {vs : List V} {ds : List D} {mds : List (Key × D)}, Reps K F vs ds → pairsD ds = some mds →
    ∃ (ps : List Addr) (kvs : List (Key × V)), vs = ps.map V.ref ∧ Paired (fun p kv => SqT K H p [kV kv.1, kv.2]) ps kvs ∧ kvs.map Prod.fst = mds.map Prod.fst ∧ Reps K F (kvs.map Prod.snd) (mds.map Prod.snd)
  | _, _, _, .nil, e => by
    cases e
    exact ⟨[], [], rfl, .nil, rfl, .nil⟩
  | v :: vs, d :: ds, mds, .cons r rs, e => by
    unfold pairsD at e
    cases e1 : pairD d with
    | none => rw [e1] at e; cases e
    | some m =>
      rw [e1, Option.bind_some] at e
      cases e2 : pairsD ds with
      | none => rw [e2] at e; cases e
      | some ms =>
        rw [e2, Option.bind_some] at e
        cases e
        obtain ⟨ps, kvs, h1, h2, h3, h4⟩ := pairs_reps sm rs e2
        unfold pairD at e1
        split at e1
        · rename_i k w
          cases e3 : keyK k with
          | none => rw [e3] at e1; cases e1
          | some q =>
            rw [e3, Option.bind_some] at e1
            cases e1
            cases r with
            | tup ea ra =>
              cases ra with
              | cons rk rr =>
                cases rr with
                | cons rw' rn =>
                  cases rn
                  have ek := keyKE (F := F) (H := F) (.rep rk) e3
                  subst ek
                  refine ⟨_ :: ps, (q, _) :: kvs, by rw [h1, List.map_cons], .cons ((ea.mono sm.sm).sq K) h2, by rw [List.map_cons, List.map_cons, h3], .cons rw' h4⟩
        · cases e1
abbrev rDictP (K : PySem.W.Frag) : List V → Hp → VK → Prop := fun xs H Q => ∃ (a : Addr) (ps : List Addr) (kvs : List (Key × V)), xs = [.ref a] ∧ SqL K H a (ps.map V.ref) ∧ Paired (fun p kv => SqT K H p [kV kv.1, kv.2]) ps kvs ∧
    ∀ p, H p = none → Q (.ref p) (upd H p (.dK (mergeK [] kvs)))
theorem s_dict : OpN K (.dic .leaf) (rDictP K) (one dictD) := by
  refine s_one fun F H x d z Q sm h e ok => ?_
  unfold dictD at e
  split at e
  · rename_i ds
    cases e1 : pairsD ds with
    | none => rw [e1] at e; cases e
    | some ms =>
      rw [e1, Option.bind_some] at e
      cases e
      obtain ⟨p, vs, rfl, q, r⟩ := h.lstE sm
      obtain ⟨ps, kvs, h1, h2, h3, h4⟩ := pairs_reps sm r e1
      subst h1
      obtain ⟨m1, m2⟩ := merge_rel (kvs := []) (ds := []) h3 h4 rfl .nil
      exact ⟨p, ps, kvs, rfl, .inl (.inl q), h2, fun l n => ok.newK sm m1 m2 n⟩
  · cases e
end
section
variable {X : Cx} (K : PySem.W.Frag) (hK : X.K = K)
include hK
theorem k_dict (hc : X.calm = true) : CallR X (.type "dict") (rDictP K) := hK ▸ call_dictP hc
end
end VL
/-! V23: reversed of a list or a tuple. -/
namespace VL
open PySem PySem.Spec L2
theorem get_rev {α : Type} {xs : List α} {i : Nat} {d : α} (h : xs.reverse[i]? = some d) : i < xs.length ∧ xs[xs.length - 1 - i]? = some d := by
  have hi : i < xs.length := by
    have := (List.getElem?_eq_some_iff.mp h).1
    rwa [List.length_reverse] at this
  rw [List.getElem?_reverse hi] at h
  exact ⟨hi, h⟩
theorem walks_revT {K : PySem.W.Frag} {F0 : Hp} {a : Addr} {vs : List V} {ds : List D} (e : SqT K F0 a vs) (r : Reps K F0 vs ds) : Walks K (RT.ItvT K a vs.length) ds.reverse F0 := by
  intro i F H s1 s2
  have q : SqT K H a vs := same_sqT s2.sm (same_sqT s1 e)
  have r' := r.mono s1
  refine ⟨fun d hd => ?_, fun hl => (show vs.length ≤ i by rw [r.length]; rwa [List.length_reverse] at hl)⟩
  obtain ⟨hi, hd⟩ := get_rev hd
  obtain ⟨v, v1, v2⟩ := r'.get hd
  rw [← r.length] at v1 hi
  refine ⟨⟨hi, vs, v, q, v1⟩, fun x H' ⟨h1, h2⟩ => ?_⟩
  subst h1
  have := (h2 vs q).symm.trans v1
  cases this
  exact ⟨F, .refl s2, v2⟩
theorem walks_revL {K : PySem.W.Frag} {F0 : Hp} {a : Addr} {vs : List V} {ds : List D} (e : F0 a = some (.lst vs)) (r : Reps K F0 vs ds) : Walks K (Itv K a vs.length) ds.reverse F0 := by
  intro i F H s1 s2
  have q : SqL K H a vs := .of (s2 _ _ (s1 _ _ e))
  have r' := r.mono s1
  refine ⟨fun d hd => ?_, fun hl => (show vs.length ≤ i by rw [r.length]; rwa [List.length_reverse] at hl)⟩
  obtain ⟨hi, hd⟩ := get_rev hd
  obtain ⟨v, v1, v2⟩ := r'.get hd
  rw [← r.length] at v1 hi
  refine ⟨⟨hi, vs, v, q, v1⟩, fun x H' ⟨h1, h2⟩ => ?_⟩
  subst h1
  have := (h2 vs q).symm.trans v1
  cases this
  exact ⟨F, .refl s2, v2⟩
def asRev : D → DEnv → R (List D)
  | .tup ds, ρ => .ok ds.reverse ρ
  | .lst ds, ρ => .ok ds.reverse ρ
  | _, _ => .no
def mRev (m : ME) : MA := fun ρ => (m ρ).bind asRev
theorem kv_rev {X : Cx} {ks : List Sh} {W : WX} {tg e : Expr} {te : TE} {me : ME} {p pos : Pos} (K : PySem.W.Frag) (hK : X.K = K) (h : EV X ks W e .leaf te me) (hm : X.mg "reversed" = none) (hg : Gl X "reversed" := by rfl)
    (hs : starEach [e] X.env = (false, eval e X.env) :: starEach [] X.env := by rfl) : IV X ks W tg (.Call (.Name "reversed" p) [e] [] pos) (RT.iRevA K te) (mRev me) := by
  subst hK
  refine ⟨RT.pi_revA hg hm h.pe hs, fun ρ σ F H fp Q α Ok f r hok hn hx k => ?_⟩
  unfold mRev at hok
  rw [bind_assoc] at hok
  refine h.sd.go r (Ok := Ok) hok hn hx fun d ρ1 v F1 H1 fp1 h1 r1 x1 p1 => ?_
  cases d with
  | tup ds =>
    cases p1 with
    | tup q1 q2 => exact ⟨_, _, rfl, .inr ⟨(q1.mono r1.sub.sm).sq X.K, k _ ρ1 _ F1 H1 fp1 h1 r1 x1 (walks_revT (q1.sq X.K) q2)⟩⟩
  | lst ds =>
    cases p1 with
    | lst q1 q2 => exact ⟨_, _, rfl, .inl ⟨.of (r1.sub _ _ q1), k _ ρ1 _ F1 H1 fp1 h1 r1 x1 (walks_revL q1 q2)⟩⟩
  | _ => exact (hn h1).elim
section
variable {ρ : DEnv} {m : ME}
@[simp] theorem e_rev : mRev m ρ = (m ρ).bind asRev := rfl
@[simp] theorem e_asRevT (ds : List D) : asRev (.tup ds) ρ = .ok ds.reverse ρ := rfl
@[simp] theorem e_asRevL (ds : List D) : asRev (.lst ds) ρ = .ok ds.reverse ρ := rfl
end
end VL
/-! V24: dicts walked, items, sum of values, get, index, keys of tuples. -/
namespace VL
open PySem PySem.Spec L2

/-! ### walks over a dict that stands -/
theorem fst_at {α β κ : Type} {kvs : List (κ × α)} {ds : List (κ × β)} (e : kvs.map Prod.fst = ds.map Prod.fst) {i : Nat} {d : κ × β} (h : ds[i]? = some d) : ∃ v, kvs[i]? = some (d.1, v) := by
  have h1 : (ds.map Prod.fst)[i]? = some d.1 := by rw [List.getElem?_map, h]; rfl
  rw [← e, List.getElem?_map] at h1
  cases z : kvs[i]? with
  | none => rw [z] at h1; cases h1
  | some p =>
    rw [z] at h1
    obtain ⟨k, v⟩ := p
    have h2 : k = d.1 := Option.some.inj h1
    exact ⟨v, by rw [h2]⟩
theorem fst_len {α β κ : Type} {kvs : List (κ × α)} {ds : List (κ × β)} (e : kvs.map Prod.fst = ds.map Prod.fst) : kvs.length = ds.length := by
  have := congrArg List.length e
  rwa [List.length_map, List.length_map] at this
theorem walks_keys {K : PySem.W.Frag} {F0 : Hp} {a : Addr} {o : Obj} {kvs : List (Key × V)} {ds : List (Key × D)} (e : F0 a = some (.frz o (.dK kvs))) (ek : kvs.map Prod.fst = ds.map Prod.fst) (ha : ds.all (fun kv => ascK kv.1) = true) :
    Walks K (Itk a o kvs) (ds.map fun kv => keyD kv.1) F0 := by
  intro i F H s1 s2
  have q : H a = some (.frz o (.dK kvs)) := s2 _ _ (s1 _ _ e)
  have hl := fst_len ek
  refine ⟨fun d hd => ?_, fun h => ⟨q, by rw [hl]; rwa [List.length_map] at h⟩⟩
  rw [List.getElem?_map] at hd
  cases z : ds[i]? with
  | none => rw [z] at hd; cases hd
  | some kd =>
    rw [z] at hd
    have hi : i < ds.length := (List.getElem?_eq_some_iff.mp z).1
    have ed : keyD kd.1 = d := Option.some.inj hd
    refine ⟨⟨q, by omega⟩, fun x H' ⟨h1, k, v, h2, h3⟩ => ⟨F, ?_, ?_⟩⟩
    · subst h1; exact .refl s2
    · obtain ⟨v', h4⟩ := fst_at ek z
      rw [h4] at h2
      cases h2
      subst h3 ed
      exact rep_key _ (List.all_eq_true.mp ha kd (List.mem_of_getElem? z))
theorem walks_keysT {K : PySem.W.Frag} {F0 : Hp} {a : Addr} {o : Obj} {kvs : List (List Key × V)} {ds : List (List Key × D)} (e : F0 a = some (.frz o (.dT kvs))) (ek : kvs.map Prod.fst = ds.map Prod.fst) (ha : ds.all (fun kv => kv.1.all ascK) = true) :
    Walks K (Itkt a o kvs) (ds.map fun kv => .key kv.1) F0 := by
  intro i F H s1 s2
  have q : H a = some (.frz o (.dT kvs)) := s2 _ _ (s1 _ _ e)
  have hl := fst_len ek
  refine ⟨fun d hd => ?_, fun h => ⟨q, by rw [hl]; rwa [List.length_map] at h⟩⟩
  rw [List.getElem?_map] at hd
  cases z : ds[i]? with
  | none => rw [z] at hd; cases hd
  | some kd =>
    rw [z] at hd
    have hi : i < ds.length := (List.getElem?_eq_some_iff.mp z).1
    have ed : D.key kd.1 = d := Option.some.inj hd
    refine ⟨⟨q, by omega⟩, fun x H' ⟨h1, k, v, b, h2, h3, h5⟩ => ⟨F, ?_, ?_⟩⟩
    · subst h1; exact .refl s2
    · obtain ⟨v', h4⟩ := fst_at ek z
      rw [h4] at h2
      cases h2
      subst h3 ed
      exact .key (s2.tp _ _ h5) (List.all_eq_true.mp ha kd (List.mem_of_getElem? z))
def asKy : D → DEnv → R (List D)
  | .dK ds, ρ => if ds.all (fun kv => ascK kv.1) = true then .ok (ds.map fun kv => keyD kv.1) ρ else .no
  | .dT ds, ρ => if ds.all (fun kv => kv.1.all ascK) = true then .ok (ds.map fun kv => .key kv.1) ρ else .no
  | _, _ => .no
def mKs (m : ME) : MA := fun ρ => (m ρ).bind asKy
section
variable {X : Cx} {ks : List Sh} {W : WX} {tg e : Expr} {te : TE} {me : ME} {apos cpos : Pos}
theorem iv_keys (h : EV X ks W e .leaf te me) : IV X ks W tg e (iKeys te) (mKs me) := by
  refine ⟨pi_keys h.pe, fun ρ σ F H fp Q α Ok f r hok hn hx k => ?_⟩
  unfold mKs at hok
  rw [bind_assoc] at hok
  refine h.sd.go r (Ok := Ok) hok hn hx fun d ρ1 v F1 H1 fp1 h1 r1 x1 p1 => ?_
  cases d with
  | dK ds =>
    cases p1 with
    | dK q1 q2 q3 =>
      have h1' : Ok ((if ds.all (fun kv => ascK kv.1) = true then R.ok (ds.map fun kv => keyD kv.1) ρ1 else R.no).bind f) := h1
      by_cases c : ds.all (fun kv => ascK kv.1) = true
      · rw [if_pos c] at h1'
        exact ⟨_, _, rfl, .inl ⟨_, r1.sub _ _ q1, k _ ρ1 _ F1 H1 fp1 h1' r1 x1 (walks_keys q1 q2 c)⟩⟩
      · rw [if_neg c] at h1'; exact (hn h1').elim
  | dT ds =>
    cases p1 with
    | dT q1 q2 q3 =>
      have h1' : Ok ((if ds.all (fun kv => kv.1.all ascK) = true then R.ok (ds.map fun kv => D.key kv.1) ρ1 else R.no).bind f) := h1
      by_cases c : ds.all (fun kv => kv.1.all ascK) = true
      · rw [if_pos c] at h1'
        exact ⟨_, _, rfl, .inr ⟨_, r1.sub _ _ q1, k _ ρ1 _ F1 H1 fp1 h1' r1 x1 (walks_keysT q1 q2 c)⟩⟩
      · rw [if_neg c] at h1'; exact (hn h1').elim
  | _ => exact (hn h1).elim
end

/-! ### items -/
def ItiF (d : Addr) (o : Obj) (kvs : List (Key × V)) : It :=
  ⟨fun i H => H d = some (.frz o (.dK kvs)) ∧ i < kvs.length, fun i H x H' => ∃ T k v us, kvs[i]? = some (k, v) ∧ x = .ref T ∧ H T = none ∧ H' = upd H T (tupC us [kV k, v]), fun i H => H d = some (.frz o (.dK kvs)) ∧ kvs.length ≤ i⟩
theorem turn_itemsF {P : Program} {w : World} {K : PySem.W.Frag} {d : Addr} {o : Obj} {es : Array DictEntry} {ep : Nat} {kvs : List (Key × V)} {elts : List Expr} {kk : Nat} {tpos : Pos} (it : Addr) (hod : o.data = .dict es ep) :
    Turn P w K (.Tuple elts kk tpos) (ItiF d o kvs) [it] it (fun i h => ∃ ok ov, IsItemIter h it d i kvs.length ep ok ov) where
  mem := by simp
  obj := fun i h st b hb => by
    have e : b = it := by simpa using hb
    subst e
    obtain ⟨ok, ov, e⟩ := st
    exact ⟨_, e, fun v z => nomatch z⟩
  keep := fun i h h' st k => let ⟨ok, ov, e⟩ := st; ⟨ok, ov, k it (by simp) _ e⟩
  item := by
    intro X hP hw hK hc i pins s σ H E I hf st hg
    subst hP hw hK
    obtain ⟨hd, hi⟩ := hg
    obtain ⟨hs, hgd, hx, es', ep', vs, hdt, hsz, kv, hm⟩ := I.frzK hd
    obtain ⟨rfl, rfl⟩ := dict_ep hod hdt
    obtain ⟨⟨k, v⟩, hkv⟩ : ∃ p, kvs[i]? = some p := ⟨kvs[i], List.getElem?_eq_getElem hi⟩
    obtain ⟨u, hu, ru⟩ := kv_get kv hkv
    have hl : kvs.length = vs.length := Paired.length kv
    obtain ⟨ok, ov, he⟩ := st
    rw [hl] at he
    have hlt : it < s.heap.objs.size := Heap.lt_size he
    refine wpAny_pyNext_items_item he hm hu fun key h' hkey ho hT hz hk => ?_
    refine ⟨_, rfl, wpAny_letOwnedTupleGo_items (s := { s with heap := h' }) ho fun h'' he' sb => ?_⟩
    have hT2 : h''.get? s.heap.objs.size = some { cls := .type "tuple", data := .seq #[key, u] } := (sb.2 _ (Nat.ne_of_gt hlt)).trans hT
    have new : ObjOk X.prog X.w (upd H s.heap.objs.size (tupC [key, u] [kV k, v])) h'' s.heap.objs.size (tupC [key, u] [kV k, v]) :=
      tupC_ok (by show 2 ≤ sizeLine; decide) (.cons (relV_key (show keyIs k key = true from hkey)) (.cons ru .nil)) hT2
    have I1 : Inv X pins σ (upd H s.heap.objs.size (tupC [key, u] [kV k, v])) { s with heap := h'' } :=
      I.turnedNew (t' := s.toks) (ch := [it]) (fun b ob hb e => (sb.2 b (by simpa using hb)).trans (hk b ob (by simpa using hb) e)) hf (Nat.le_refl _) new
    refine ⟨.ref s.heap.objs.size, _, I1, rfl, ⟨_, k, v, _, hkv, rfl, I.hok.fresh (Nat.le_refl _), rfl⟩, ⟨key, u, ?_⟩, fun b hb => ?_⟩
    · rw [hl]; exact he'
    · have e : b = it := by simpa using hb
      rw [e, upd_ne (Nat.ne_of_lt hlt)]
      exact (hf it (by simp)).1
  done := by
    intro X hP hw hK hc i pins s σ H E I hf st hg
    subst hP hw hK
    obtain ⟨hd, hi⟩ := hg
    obtain ⟨f0, f1, f2, f3, f4, f5⟩ := hf it (by simp)
    obtain ⟨hs, hgd, hx, es', ep', vs, hdt, hsz, kv, hm⟩ := I.frzK hd
    obtain ⟨rfl, rfl⟩ := dict_ep hod hdt
    have hl : kvs.length = vs.length := Paired.length kv
    obtain ⟨ok, ov, he⟩ := st
    rw [hl] at he
    exact wpAny_pyNext_items_end (I.ok.hd hc) he hm (List.getElem?_eq_none (by omega)) fun h' eb => ⟨rfl, I.turned (t' := s.toks) (fun b ob hb e => eb b ob hb e) f0 f1 f3 f4 f5⟩
  self := fun A i s Q E st h => let ⟨_, _, e⟩ := st; PySem.W.kcp_self e h
def iItemsF (td : TE) : TI := fun σ H R => td σ H fun x H1 => ∃ d o kvs, x = .ref d ∧ H1 d = some (.frz o (.dK kvs)) ∧ R (ItiF d o kvs) H1
theorem pi_itemsF {X : Cx} {e : Expr} {td : TE} {apos cpos tpos : Pos} {elts : List Expr} {kk : Nat} (he : PE X e td) (hbase : attributeBase e "items" X.env (eval e X.env) = eval e X.env := by rfl) (hline : (apos.endLine == cpos.line) = true := by rfl) :
    PI X (.Tuple elts kk tpos) (.Call (.Attribute e "items" apos) [] [] cpos) (iItemsF td) := by
  refine ⟨fun pins s σ H R I h => ?_⟩
  refine wpAny_Call_method (T := "dict") (id := "dict.items") hbase rfl hline F.plainAttrs_dict F.slot_dict_items F.type_dict_items (thn (he.run pins s σ H _ I h) fun u s1 ⟨x, H1, I1, rx, d, o, kvs, ex, hd, q⟩ => ?_)
  subst ex
  obtain rfl : u = Value.ref d := rx
  obtain ⟨hs, hgd, hx, es, ep, vs, hdt, hsz, kv, hm⟩ := I1.frzK hd
  have hl : kvs.length = vs.length := Paired.length kv
  refine ⟨hm.dictOf.typeIs, hm.dictOf.mapOf.noDict, ?_⟩
  have I2 : Inv X pins σ H1 { s1 with heap := s1.heap.push { cls := .type "dict_items", data := .fields #[.ref d] } } := I1.kept (t' := s1.toks) fun b ob q => Heap.get?_push_of_some _ q
  have fin : wpAny (model X.prog X.w) X.A (pyIter (.ref s1.heap.objs.size)) (PIE X pins σ (.Tuple elts kk tpos) R) X.xe { s1 with heap := s1.heap.push { cls := .type "dict_items", data := .fields #[.ref d] } } := by
    refine wpAny_pyIter_items (d := d) (knd := mixKind X.prog X.w) ⟨_, Heap.get?_push_size _ rfl, rfl, rfl⟩ (hm.push _) (pi_one (tk := s1.toks) I2 _ (turn_itemsF _ hdt) ⟨.none, .none, ?_⟩ q)
    rw [hl]
    exact Heap.get?_push_size _ rfl
  show wpAny _ _ (callWith cpos (.builtin "dict.items") [.ref d] [] []) _ X.xe s1
  exact method_meetsIn F.slot_dict_items F.entry_dict_items rfl (PySem.evalArgs_none ⟨rfl, hm.dictOf.typeIs, F.args_dict_items_1 _, _, meets_dict_items (mixKind X.prog X.w) d hs, ⟨vs, hm.dictOf⟩, fin⟩)
theorem walks_items {K : PySem.W.Frag} {F0 : Hp} {a : Addr} {o : Obj} {kvs : List (Key × V)} {ds : List (Key × D)} (e : F0 a = some (.frz o (.dK kvs))) (ek : kvs.map Prod.fst = ds.map Prod.fst) (rr : Reps K F0 (kvs.map Prod.snd) (ds.map Prod.snd)) (ha : ds.all (fun kv => ascK kv.1) = true) :
    Walks K (ItiF a o kvs) (ds.map fun kv => .tup [keyD kv.1, kv.2]) F0 := by
  intro i F H s1 s2
  have q : H a = some (.frz o (.dK kvs)) := s2 _ _ (s1 _ _ e)
  have hl := fst_len ek
  refine ⟨fun d hd => ?_, fun h => ⟨q, by rw [hl]; rwa [List.length_map] at h⟩⟩
  rw [List.getElem?_map] at hd
  cases z : ds[i]? with
  | none => rw [z] at hd; cases hd
  | some kd =>
    rw [z] at hd
    have hi : i < ds.length := (List.getElem?_eq_some_iff.mp z).1
    have ed : D.tup [keyD kd.1, kd.2] = d := Option.some.inj hd
    refine ⟨⟨q, by omega⟩, fun x H' ⟨T, k, v, us, h2, h3, h5, h6⟩ => ?_⟩
    have al := upd_alc (o := tupC us [kV k, v]) s2 h5
    refine ⟨upd F T (tupC us [kV k, v]), by rw [h6]; exact al, ?_⟩
    obtain ⟨v', h4⟩ := fst_at ek z
    have hv : (kvs.map Prod.snd)[i]? = some v := by rw [List.getElem?_map, h2]; rfl
    rw [h4] at h2
    cases h2
    obtain ⟨d', g1, g2⟩ := rr.getV hv
    rw [List.getElem?_map, z] at g1
    have g3 : kd.2 = d' := Option.some.inj g1
    subst h3 ed g3
    exact .tup ⟨us, upd_same⟩ (.cons (rep_key _ (List.all_eq_true.mp ha kd (List.mem_of_getElem? z))) (.cons (g2.mono (fun b u w => al.same s2 b u (s1 b u w))) .nil))
def asIt : D → DEnv → R (List D)
  | .dK ds, ρ => if ds.all (fun kv => ascK kv.1) = true then .ok (ds.map fun kv => .tup [keyD kv.1, kv.2]) ρ else .no
  | _, _ => .no
def mIts (m : ME) : MA := fun ρ => (m ρ).bind asIt
section
variable {X : Cx} {ks : List Sh} {W : WX} {tg e : Expr} {te : TE} {me : ME} {apos cpos tpos : Pos} {elts : List Expr} {kk : Nat}
theorem iv_items (h : EV X ks W e .leaf te me) (hbase : attributeBase e "items" X.env (eval e X.env) = eval e X.env := by rfl) (hline : (apos.endLine == cpos.line) = true := by rfl) :
    IV X ks W (.Tuple elts kk tpos) (.Call (.Attribute e "items" apos) [] [] cpos) (iItemsF te) (mIts me) := by
  refine ⟨pi_itemsF h.pe hbase hline, fun ρ σ F H fp Q α Ok f r hok hn hx k => ?_⟩
  unfold mIts at hok
  rw [bind_assoc] at hok
  refine h.sd.go r (Ok := Ok) hok hn hx fun d ρ1 v F1 H1 fp1 h1 r1 x1 p1 => ?_
  cases d with
  | dK ds =>
    cases p1 with
    | dK q1 q2 q3 =>
      have h1' : Ok ((if ds.all (fun kv => ascK kv.1) = true then R.ok (ds.map fun kv => D.tup [keyD kv.1, kv.2]) ρ1 else R.no).bind f) := h1
      by_cases c : ds.all (fun kv => ascK kv.1) = true
      · rw [if_pos c] at h1'
        exact ⟨_, _, _, rfl, r1.sub _ _ q1, k _ ρ1 _ F1 H1 fp1 h1' r1 x1 (walks_items q1 q2 q3 c)⟩
      · rw [if_neg c] at h1'; exact (hn h1').elim
  | _ => exact (hn h1).elim
end
end VL
/-! V25: sum(d.values()), d.get(k, x), index, keys made. -/
namespace VL
open PySem PySem.Spec L2

/-! ### sum(o.values()) -/
def tSumVals (td : TE) : TE := fun σ H Q => td σ H fun x H1 => ∃ (a : Addr) (kvs : List (Key × V)) (is : List Int), x = V.ref a ∧ Rd H1 a (.dK kvs) ∧ kvs.map (·.2) = is.map V.int ∧ Q (.int is.sum) H1
theorem pe_sumVals {X : Cx} {o : Expr} {p pos apos mpos : Pos} {td : TE} (hc : X.calm = true) (hg : Gl X "sum") (hm : X.mg "sum" = none) (hd : PE X o td) (hbase : attributeBase o "values" X.env (eval o X.env) = eval o X.env := by rfl) (hline : (apos.endLine == mpos.line) = true := by rfl)
    (hse : starEach [Expr.Call (.Attribute o "values" apos) [] [] mpos] X.env = [(false, eval (Expr.Call (.Attribute o "values" apos) [] [] mpos) X.env)] := by rfl) :
    PE X (.Call (.Name "sum" p) [.Call (.Attribute o "values" apos) [] [] mpos] [] pos) (tSumVals td) := by
  refine ⟨fun pins s σ H Q I h => ?_⟩
  refine wpAny_Call_Name_kw (ld_blt I hg hm (u := .builtin "sum") (by first | rfl | decide +kernel) ?_ (by first | decide +kernel | decide) (by first | decide +kernel | decide))
  rw [hse]
  refine PySem.callWith_builtin1 (wpAny_Call_method0_late hbase hline (thn (hd.run pins s σ H _ I h) fun v s1 ⟨x, H1, I1, r1, a, kvs, is, ex, ha, hv, q⟩ => ?_))
  subst ex
  obtain rfl : v = Value.ref a := r1
  obtain ⟨_, hsys, vs, rel, dof⟩ := dk_rd I1.hok ha
  obtain ⟨ep, dat⟩ := dof.dictAt
  have dat' := dat
  obtain ⟨ob, es, ho, ex, hdat, hko, hpr, hnd⟩ := dat'
  refine ⟨"dict", "dict.values", F.plainAttrs_dict, F.slot_dict_values, F.type_dict_values, ⟨ob, ho, ex.1⟩, fun b e => ?_, Calls.callWith_builtin rfl (PySem.evalArgs_none ?_)⟩
  · cases e
    exact ⟨ob, ho, ex.2.1⟩
  refine call_meetsIn F.slot_dict_values ⟨ob, ho, ex.1⟩ F.entry_dict_values (F.args_dict_values_1 _) (meets_dict_values (mixKind X.prog X.w) a hsys) ⟨⟨vs, dof⟩, ?_⟩
  have k1 : ∀ b u, s1.heap.get? b = some u → (s1.heap.push { cls := .type "dict_values", data := .fields #[.ref a] }).get? b = some u := fun b u e => Heap.get?_push_of_some _ e
  have dat1 : (s1.heap.push { cls := .type "dict_values", data := .fields #[.ref a] }).DictAt (mixKind X.prog X.w) a vs ep := dat.keep k1
  have hlv : vs.length = is.length := by
    have e1 := congrArg List.length hv
    rw [List.length_map, List.length_map] at e1
    rw [← e1]
    exact (KV.length rel).symm
  have hval : ∀ (i : Nat) (v : Value), (∃ k, vs[i]? = some (k, v)) → ∃ t, v = Value.int (is.getD i 0) t := fun i v ⟨k, hk⟩ => by
    obtain ⟨x, h1, h2⟩ := KV.at' rel hk
    have e1 : (kvs.map (·.2))[i]? = some x := by rw [List.getElem?_map, h1] <;> rfl
    rw [hv, List.getElem?_map] at e1
    obtain ⟨j, hj, e2⟩ := Option.map_eq_some_iff.mp e1
    subst e2
    obtain ⟨t, e3⟩ := h2
    refine ⟨t, ?_⟩
    rw [e3, List.getD_eq_getElem?_getD, hj] <;> rfl
  refine call_sum_walkAnyS (wpAny_pyIter_values (v := s1.heap.objs.size) (d := a) ⟨_, Heap.get?_push_size _ rfl, rfl, rfl⟩ dat1 ?_)
  have hlt : a < s1.heap.objs.size := Heap.lt_size ho
  have hsz : (s1.heap.push { cls := .type "dict_values", data := .fields #[.ref a] }).objs.size = s1.heap.objs.size + 1 := Heap.size_push _ _
  refine ⟨_, _, _, _, _, _, _, fun i => is.getD i 0, rfl, (Walks.dictValues (knd := mixKind X.prog X.w) (A := X.A.in1) (I.ok.hd hc) (s1.heap.push { cls := .type "dict_values", data := .fields #[.ref a] }).objs.size a (by rw [hsz]; exact Nat.ne_of_lt (Nat.lt_succ_of_lt hlt)) vs ep).toS,
    ⟨⟨_, Heap.get?_push_size _ rfl, rfl, rfl⟩, dat1.keep fun b u e => Heap.get?_push_of_some _ e⟩, fun b hb => ?_, hval, fun s' t' hm => ?_⟩
  · show b < ((s1.heap.push _).push _).objs.size
    rw [Heap.size_push, Heap.size_push]
    rw [hsz] at hb
    rcases List.mem_cons.mp hb with e | hb
    · rw [e]
      exact Nat.lt_succ_self _
    · have e : b = a := List.mem_singleton.mp hb
      rw [e]
      exact Nat.lt_succ_of_lt (Nat.lt_succ_of_lt hlt)
  · rw [Moved.eq_with hm]
    have es : preSum (fun i => is.getD i 0) vs.length = is.sum := by
      have q1 : ∀ n, n ≤ is.length → preSum (fun i => is.getD i 0) n = (is.take n).sum := by
        intro n
        induction n with
        | zero => intro _; rfl
        | succ n ih =>
          intro hn
          show preSum _ n + is.getD n 0 = _
          have hx : is[n]? = some is[n] := List.getElem?_eq_getElem hn
          rw [ih (by omega), List.take_succ, hx, List.sum_append, List.getD_eq_getElem?_getD, hx]
          simp
      rw [hlv, q1 _ (Nat.le_refl _), List.take_length]
    rw [es]
    refine ⟨.int _, H1, I1.kept (t' := s'.toks) fun b u e => hm.heap b u (fun hmem => ?_) (Heap.get?_push_of_some _ (k1 b u e)), ⟨t', rfl⟩, q⟩
    have e1 : b = (s1.heap.push { cls := .type "dict_values", data := .fields #[.ref a] }).objs.size := List.mem_singleton.mp hmem
    have e2 := Heap.lt_size e
    rw [hsz] at e1
    rw [e1] at e2
    exact absurd e2 (Nat.not_lt.mpr (Nat.le_succ _))
def sumVD : D → Option D
  | .dK kvs => (asInts (kvs.map Prod.snd)).bind fun is => some (.int is.sum)
  | _ => none
theorem ev_sumVals {X : Cx} {ks : List Sh} {W : WX} {o : Expr} {p pos apos mpos : Pos} {td : TE} {mo : MO} (hc : X.calm = true) (ho : EO X ks W o td mo) (hm : X.mg "sum" = none) (hg : Gl X "sum" := by rfl) (hbase : attributeBase o "values" X.env (eval o X.env) = eval o X.env := by rfl) (hline : (apos.endLine == mpos.line) = true := by rfl)
    (hse : starEach [Expr.Call (.Attribute o "values" apos) [] [] mpos] X.env = [(false, eval (Expr.Call (.Attribute o "values" apos) [] [] mpos) X.env)] := by rfl) :
    EV X ks W (.Call (.Name "sum" p) [.Call (.Attribute o "values" apos) [] [] mpos] [] pos) .leaf (tSumVals td) (mOp1 sumVD mo) := by
  refine ⟨pe_sumVals hc hg hm ho.pe hbase hline hse, fun ρ σ F H fp Q r0 hok => ?_⟩
  refine ho.sd.go r0 (Ok := OkE (bd X ks W) .leaf F H fp σ Q) hok (fun z => z) (fun _ _ z => z) fun x ρ1 v F1 H1 fp1 h1 r1 x1 o1 => ?_
  cases e1 : x.get ρ1 with
  | none => rw [e1] at h1; exact (show False from h1).elim
  | some d =>
    rw [e1, Option.bind_some] at h1
    cases e2 : sumVD d with
    | none => rw [e2] at h1; exact (show False from h1).elim
    | some z =>
      rw [e2] at h1
      unfold sumVD at e2
      split at e2
      · rename_i kvs
        cases e3 : asInts (kvs.map Prod.snd) with
        | none => rw [e3] at e2; cases e2
        | some is =>
          rw [e3] at e2
          cases e2
          obtain ⟨q, kv, rfl, q1, q2, q3⟩ := (o1.vw r1 e1).dKE r1.sub
          exact ⟨q, kv, is, rfl, q1, reps_asInts q3 e3, ((h1.ext x1).done r1).here r1.sub (.int _)⟩
      · cases e2

/-! ### o.get(k, x) -/
def D.isDc : D → Bool
  | .dK _ => true
  | .dT _ => true
  | _ => false
def getD3 (d k x : D) : Option D := match d with
  | .dK kvs => (keyK k).bind fun q => some ((look kvs q).getD x)
  | .dT kvs => (keyT k).bind fun q => some ((look kvs q).getD x)
  | _ => none
def mGet (mo : MO) (mk mx : ME) : ME := fun ρ => (mo ρ).bind fun o ρ1 => if (o.get ρ1).any D.isDc = true then (mk ρ1).bind fun k ρ2 => (mx ρ2).bind fun x ρ3 => R.of ((o.get ρ3).bind fun d => getD3 d k x) ρ3 else .no
theorem vw_isD {K : PySem.W.Frag} {F H : Hp} (sm : Sub F H) {v : V} {d : D} (h : Vw K F H v d) (e : d.isDc = true) : ∃ a, v = .ref a ∧ IsD H a := by
  cases d with
  | dK kvs => obtain ⟨p, kv, e1, e2, _⟩ := h.dKE sm; exact ⟨p, e1, .inl ⟨_, e2⟩⟩
  | dT kvs => obtain ⟨p, kv, e1, e2, _⟩ := h.dTE sm; exact ⟨p, e1, .inr ⟨_, e2⟩⟩
  | _ => cases e
theorem ev_get {X : Cx} {ks : List Sh} {W : WX} {o e f : Expr} {apos cpos : Pos} {td ty tx : TE} {mo : MO} {mk mx : ME} (hu : X.A.units + 1 < cLine) (ho : EO X ks W o td mo) (he : EV X ks W e .leaf ty mk) (hf : EV X ks W f .leaf tx mx)
    (m1 : attributeBase o "get" X.env (eval o X.env) = eval o X.env := by rfl)
    (m2 : ((backTo cpos (starEach [e, f] X.env)).all (fun x => !x.1) && (backToKw cpos (keywordEach [] X.env)).all (fun x => x.1.isSome)
    && decide (([e, f] : List Expr).length + ([] : List Keyword).length + (if ([] : List Keyword).isEmpty then 0 else 1) < 30)) = true := by rfl)
    (m3 : (apos.endLine == cpos.line) = true := by rfl) (m4 : backTo cpos (starEach [e, f] X.env) = [(false, eval e X.env), (false, eval f X.env)] := by rfl) :
    EV X ks W (.Call (.Attribute o "get" apos) [e, f] [] cpos) .leaf (tDGet2 td ty tx) (mGet mo mk mx) := by
  refine ⟨pe_dget2 hu ho.pe he.pe hf.pe ⟨m1, m2, m3, m4⟩, fun ρ σ F H fp Q r0 hok => ?_⟩
  unfold mGet at hok
  refine ho.sd.go r0 (Ok := OkE (bd X ks W) .leaf F H fp σ Q) hok (fun z => z) (fun _ _ z => z) fun x ρ1 v F1 H1 fp1 h1 r1 x1 o1 => ?_
  cases e1 : x.get ρ1 with
  | none => rw [e1] at h1; exact (show False from h1).elim
  | some d =>
    rw [e1] at h1
    by_cases c : (some d).any D.isDc = true
    · rw [if_pos c] at h1
      obtain ⟨a, rfl, isd⟩ := vw_isD r1.sub (o1.vw r1 e1) c
      refine ⟨a, rfl, isd, ?_⟩
      refine he.sd.go r1 (Ok := OkE (bd X ks W) .leaf F1 H1 fp1 σ Q) (h1.ext x1) (fun z => z) (fun _ _ z => z) fun k ρ2 u F2 H2 fp2 h2 r2 x2 p2 => ?_
      refine hf.sd.go r2 (Ok := OkE (bd X ks W) .leaf F2 H2 fp2 σ Q) (h2.ext x2) (fun z => z) (fun _ _ z => z) fun y ρ3 w F3 H3 fp3 h3 r3 x3 p3 => ?_
      have o3 := (o1.mono (r1.same x2)).mono (r2.same x3)
      have p2' := p2.mono (r2.same x3)
      cases e3 : x.get ρ3 with
      | none => rw [e3] at h3; exact (show False from h3).elim
      | some d3 =>
        rw [e3, Option.bind_some] at h3
        have vw3 := o3.vw r3 e3
        cases e4 : getD3 d3 k y with
        | none => rw [e4] at h3; exact (show False from h3).elim
        | some z =>
          rw [e4] at h3
          have okz := (h3.ext x3).done r3
          unfold getD3 at e4
          split at e4
          · rename_i kvs
            cases ek : keyK k with
            | none => rw [ek] at e4; cases e4
            | some q =>
              rw [ek] at e4
              cases e4
              obtain ⟨p, kv, q0, q1, q2, q3⟩ := vw3.dKE r3.sub
              cases q0
              have eu : u = kV q := keyKE (F := F3) (H := F3) (.rep p2') ek
              subst eu
              refine ⟨_, .inl ⟨kv, q, q1, rfl, rfl⟩, ?_⟩
              obtain ⟨l1, l2⟩ := look_val (F := F3) q q2 q3
              cases el : look kvs q with
              | none => rw [l1 el]; rw [el] at okz; exact okz.here r3.sub p3
              | some dd =>
                obtain ⟨vv, g1, g2⟩ := l2 dd el
                rw [g1]; rw [el] at okz; exact okz.here r3.sub g2
          · rename_i kvs
            cases ek : keyT k with
            | none => rw [ek] at e4; cases e4
            | some q =>
              rw [ek] at e4
              cases e4
              obtain ⟨p, kv, q0, q1, q2, q3⟩ := vw3.dTE r3.sub
              cases q0
              obtain ⟨b, b1, b2⟩ := keyTE r3.sub (.rep p2') ek
              subst b1
              refine ⟨_, .inr ⟨kv, q, b, q1, rfl, b2, rfl⟩, ?_⟩
              obtain ⟨l1, l2⟩ := look_val (F := F3) q q2 q3
              cases el : look kvs q with
              | none => rw [l1 el]; rw [el] at okz; exact okz.here r3.sub p3
              | some dd =>
                obtain ⟨vv, g1, g2⟩ := l2 dd el
                rw [g1]; rw [el] at okz; exact okz.here r3.sub g2
          · cases e4
    · rw [if_neg c] at h1; exact (show False from h1).elim
end VL
/-! V26: index; keys (tuples that dicts take), a display of one pair with such a key. -/
namespace VL
open PySem PySem.Spec L2

/-! ### index -/
def idxS (ds : List D) (x : D) : Option D := match x with
  | .str z => (asStrs ds).bind fun ys => if z ∈ ys then some (.int (ys.idxOf z : Nat)) else none
  | _ => none
theorem idx_facts : ∀ {ys : List Str} {z : Str}, z ∈ ys → ys[ys.idxOf z]? = some z ∧ ∀ m, m < ys.idxOf z → ys[m]? ≠ some z
  | [], _, h => by cases h
  | y :: ys, z, h => by
    by_cases e : y = z
    · subst e
      rw [List.idxOf_cons_self]
      exact ⟨rfl, fun m hm => absurd hm (Nat.not_lt_zero m)⟩
    · have h' : z ∈ ys := (List.mem_cons.mp h).resolve_left fun q => e q.symm
      obtain ⟨f1, f2⟩ := idx_facts h'
      have ei : (y :: ys).idxOf z = ys.idxOf z + 1 := by
        have hb : (y == z) = false := beq_eq_false_iff_ne.mpr e
        rw [List.idxOf_cons, hb]
        rfl
      rw [ei]
      refine ⟨f1, fun m hm => ?_⟩
      cases m with
      | zero => intro q; exact e (Option.some.inj q)
      | succ m => exact f2 m (by omega)
def mIdxT (m mx : ME) : ME := fun ρ => (m ρ).bind fun d ρ1 => match d with
  | .tup ds => (mx ρ1).bind fun x ρ2 => R.of (idxS ds x) ρ2
  | _ => .no
def mIdxL (mo : MO) (mx : ME) : ME := fun ρ => (mo ρ).bind fun o ρ1 => match o.get ρ1 with
  | some (.lst _) => (mx ρ1).bind fun x ρ2 => (match o.get ρ2 with
    | some (.lst ds) => R.of (idxS ds x) ρ2
    | _ => .no)
  | _ => .no
theorem flat_strs' : ∀ ys : List Str, (ys.map V.str).all flatV = true
  | [] => rfl
  | _ :: ys => by rw [List.map_cons, List.all_cons, flat_strs' ys]; rfl
theorem idxSE {ds : List D} {x z : D} (h : idxS ds x = some z) : ∃ s ys, x = .str s ∧ asStrs ds = some ys ∧ s ∈ ys ∧ z = .int (ys.idxOf s : Nat) := by
  unfold idxS at h
  split at h
  · rename_i s
    cases e : asStrs ds with
    | none => rw [e] at h; cases h
    | some ys =>
      rw [e, Option.bind_some] at h
      split at h
      · rename_i m
        exact ⟨s, ys, rfl, rfl, m, (Option.some.inj h).symm⟩
      · cases h
  · cases h
section
variable {X : Cx} {ks : List Sh} {W : WX} {o e : Expr} {to te : TE} {m mx : ME} {mo : MO} {apos cpos : Pos}
theorem ev_idxT (ho : EV X ks W o .leaf to m) (he : EV X ks W e .leaf te mx) (hbase : attributeBase o "index" X.env (eval o X.env) = eval o X.env := by rfl)
    (hfew : ((backTo cpos (starEach [e] X.env)).all (fun x => !x.1) && (backToKw cpos (keywordEach [] X.env)).all (fun x => x.1.isSome)
      && decide (([e] : List Expr).length + ([] : List Keyword).length + (if ([] : List Keyword).isEmpty then 0 else 1) < 30)) = true := by rfl)
    (hline : (apos.endLine == cpos.line) = true := by rfl) (hs : starEach [e] X.env = (false, eval e X.env) :: starEach [] X.env := by rfl) (hpl : (backTo cpos (starEach [] X.env)).any (·.1) = false := by rfl) (K : PySem.W.Frag) (hK : X.K = K) :
    EV X ks W (.Call (.Attribute o "index" apos) [e] [] cpos) .leaf (tTM (fun x xs H Q => ∃ p, ∃ ys : List Str, ∃ z j, x = .ref p ∧ xs = [.str z] ∧ SqT K H p (ys.map V.str) ∧ ys[j]? = some z ∧ (∀ m, m < j → ys[m]? ≠ some z) ∧ Q (.int (j : Nat)) H) to (tCons te tNil)) (mIdxT m mx) := by
  subst hK
  refine ⟨pe_tm PySem.F.slot_tuple_index PySem.F.type_tuple_index mt_tup_index ho.pe (pa_cons he.pe pa_nil hs) hbase hfew hline hs hpl, fun ρ σ F H fp Q r0 hok => ?_⟩
  unfold mIdxT at hok
  refine ho.sd.go r0 (Ok := OkE (bd X ks W) .leaf F H fp σ Q) hok (fun z => z) (fun _ _ z => z) fun d ρ1 v F1 H1 fp1 h1 r1 x1 p1 => ?_
  split at h1
  · rename_i ds
    cases p1 with
    | tup q1 q2 =>
      refine ⟨⟨_, _, rfl, q1.mono r1.sub.sm⟩, ?_⟩
      refine he.sd.go r1 (Ok := OkE (bd X ks W) .leaf F1 H1 fp1 σ Q) (h1.ext x1) (fun z => z) (fun _ _ z => z) fun x ρ2 u F2 H2 fp2 h2 r2 x2 p2 => ?_
      cases e1 : idxS ds x with
      | none => rw [e1] at h2; exact (show False from h2).elim
      | some z =>
        rw [e1] at h2
        obtain ⟨s, ys, rfl, ea, hm, rfl⟩ := idxSE e1
        obtain ⟨ev, _⟩ := reps_asStrs q2 ea
        subst ev
        have eu : u = .str s := by cases p2; rfl
        subst eu
        obtain ⟨f1, f2⟩ := idx_facts hm
        exact ⟨_, ys, s, _, rfl, rfl, ((q1.mono (r1.same x2)).mono r2.sub.sm).sq X.K, f1, f2, ((h2.ext x2).done r2).here r2.sub (.int _)⟩
  · exact (show False from h1).elim
theorem ev_idxL (ho : EO X ks W o to mo) (he : EV X ks W e .leaf te mx) (hbase : attributeBase o "index" X.env (eval o X.env) = eval o X.env := by rfl)
    (hfew : ((backTo cpos (starEach [e] X.env)).all (fun x => !x.1) && (backToKw cpos (keywordEach [] X.env)).all (fun x => x.1.isSome)
      && decide (([e] : List Expr).length + ([] : List Keyword).length + (if ([] : List Keyword).isEmpty then 0 else 1) < 30)) = true := by rfl)
    (hline : (apos.endLine == cpos.line) = true := by rfl) (hs : starEach [e] X.env = (false, eval e X.env) :: starEach [] X.env := by rfl) (hpl : (backTo cpos (starEach [] X.env)).any (·.1) = false := by rfl) (K : PySem.W.Frag) (hK : X.K = K) :
    EV X ks W (.Call (.Attribute o "index" apos) [e] [] cpos) .leaf (tBM K "list" (rIndex K) to (tCons te tNil)) (mIdxL mo mx) := by
  subst hK
  refine ⟨pe_bm PySem.F.plainAttrs_list PySem.F.slot_list_index PySem.F.type_list_index mt_index ho.pe (pa_cons he.pe pa_nil hs) hbase hfew hline hs hpl, fun ρ σ F H fp Q r0 hok => ?_⟩
  unfold mIdxL at hok
  refine ho.sd.go r0 (Ok := OkE (bd X ks W) .leaf F H fp σ Q) hok (fun z => z) (fun _ _ z => z) fun o1 ρ1 v F1 H1 fp1 h1 r1 x1 o1k => ?_
  split at h1
  · rename_i ds0 e0
    obtain ⟨p, vs, rfl, q1, q2⟩ := (o1k.vw r1 e0).lstE r1.sub
    refine ⟨.inl ⟨rfl, _, .inl (.inl q1)⟩, ?_⟩
    refine he.sd.go r1 (Ok := OkE (bd X ks W) .leaf F1 H1 fp1 σ Q) (h1.ext x1) (fun z => z) (fun _ _ z => z) fun x ρ2 u F2 H2 fp2 h2 r2 x2 p2 => ?_
    have o1' := o1k.mono (r1.same x2)
    split at h2
    · rename_i ds e1
      cases e2 : idxS ds x with
      | none => rw [e2] at h2; exact (show False from h2).elim
      | some z =>
        rw [e2] at h2
        obtain ⟨s, ys, rfl, ea, hm, rfl⟩ := idxSE e2
        obtain ⟨p', vs', ep, q3, q4⟩ := (o1'.vw r2 e1).lstE r2.sub
        cases ep
        obtain ⟨ev, _⟩ := reps_asStrs q4 ea
        subst ev
        have eu : u = .str s := by cases p2; rfl
        subst eu
        obtain ⟨f1, f2⟩ := idx_facts hm
        refine ⟨p, ys.map V.str, .str s, ys.idxOf s, .str s, rfl, rfl, .inl (.inl q3), rfl, flat_strs' ys, by rw [List.getElem?_map, f1]; rfl, by simp [eqV], fun mm z' hlt hz => ?_, ((h2.ext x2).done r2).here r2.sub (.int _)⟩
        rw [List.getElem?_map] at hz
        cases e4 : ys[mm]? with
        | none => rw [e4] at hz; cases hz
        | some y =>
          rw [e4] at hz
          cases hz
          have : y ≠ s := fun q => f2 mm hlt (by rw [e4, q])
          simp [eqV, this]
    · exact (show False from h2).elim
  · exact (show False from h1).elim
end

/-! ### keys made -/
theorem keyTs_asc {K : PySem.W.Frag} {F : Hp} : ∀ {vs : List V} {ds : List D} {ks : List Key}, Reps K F vs ds → keyTs ds = some ks → ks.all ascK = true
  | _, _, _, .nil, e => by cases e; rfl
  | _, d :: ds, ks, .cons h t, e => by
    have e' : ((keyK d).bind fun k => (keyTs ds).bind fun ks => some (k :: ks)) = some ks := e
    cases e1 : keyK d with
    | none => rw [e1] at e'; cases e'
    | some k =>
      cases e2 : keyTs ds with
      | none => rw [e1, e2] at e'; cases e'
      | some ls =>
        rw [e1, e2] at e'
        cases e'
        rw [List.all_cons, Bool.and_eq_true]
        refine ⟨?_, keyTs_asc t e2⟩
        unfold keyK at e1
        split at e1
        · cases e1; rfl
        · cases e1; cases h with | str _ q => exact q
        · cases e1
theorem OkV.newKey {K : PySem.W.Frag} {F H : Hp} {Q : VK} (s : Sub F H) {ks : List Key} (h : OkV K .leaf F H Q (.key ks)) (ha : ks.all ascK = true) {p : Addr} (n : H p = none) : Q (.ref p) (upd H p (.tup (ks.map kV))) := by
  have a := upd_alc (o := .tup (ks.map kV)) s n
  exact h _ _ _ [] a (fun _ m => by simp at m) List.nodup_nil (.leaf (.key upd_same ha))
def mKey (a : MA) : ME := fun ρ => (a ρ).bind fun ds ρ1 => if ds.length ≤ 16777216 then R.of ((keyTs ds).bind fun k => some (.key k)) ρ1 else .no
section
variable {X : Cx} {ks : List Sh} {W : WX} {es : List Expr} {pos : Pos}
theorem ev_key {t : TA} {a : MA} {x1} (h : EA X ks W es t a) : EV X ks W (.Tuple es x1 pos) .leaf (tTup t) (mKey a) := by
  refine ⟨pe_tup h.pe, fun ρ σ F H fp Q r hok => ?_⟩
  refine h.sd.go r (Ok := OkE (bd X ks W) .leaf F H fp σ Q) hok (fun z => z) (fun _ _ z => z) fun ds ρ1 vs F1 H1 fp1 h1 r1 x1 p1 => ?_
  by_cases hl : ds.length ≤ 16777216
  · rw [if_pos hl] at h1
    cases e : keyTs ds with
    | none => rw [e] at h1; exact (show False from h1).elim
    | some k =>
      rw [e] at h1
      have ev := keyTsE p1 e
      subst ev
      exact ⟨by rw [p1.length]; exact line_ok hl, fun p np => OkV.newKey r1.sub ((h1.ext x1).done r1) (keyTs_asc p1 e) np⟩
  · rw [if_neg hl] at h1; exact (show False from h1).elim
/-- tuple(list) as a key -/
def keyOfD : D → Option D
  | .lst ds => (keyTs ds).bind fun k => some (.key k)
  | .key k => some (.key k)
  | _ => none
theorem s_keyOf {K : PySem.W.Frag} : Op1 K .leaf (kTup K) keyOfD := by
  intro F H x d z Q sm h e ok
  unfold keyOfD at e
  split at e
  · rename_i ds
    cases e1 : keyTs ds with
    | none => rw [e1] at e; cases e
    | some k =>
      rw [e1] at e
      cases e
      obtain ⟨p, vs, rfl, e2, r⟩ := h.lstE sm
      have ev := keyTsE r e1
      subst ev
      exact .inl ⟨p, _, rfl, .inl (.inl e2), fun l n => OkV.newKey sm ok (keyTs_asc r e1) n⟩
  · rename_i k
    cases e
    obtain ⟨p, rfl, e2, e3⟩ := h.keyE
    exact .inr ⟨p, _, rfl, .of (sm _ _ e2), ok.here sm (.key e2 e3)⟩
  · cases e
theorem ev_keyOf {a : Expr} {ta : TE} {p : Pos} {mo : MO} (K : PySem.W.Frag) (hK : X.K = K) (ha : EO X ks W a ta mo) (hm : X.mg "tuple" = none) (hg : Gl X "tuple" := by rfl) (na : starEach [a] X.env = (false, eval a X.env) :: starEach [] X.env := by rfl) :
    EV X ks W (.Call (.Name "tuple" p) [a] [] pos) .leaf (tThen ta (kTup K)) (mOp1 keyOfD mo) := by
  subst hK
  exact ⟨pe_tupleOf hg hm ha.pe na, snd_op1 (b := bd X ks W) s_keyOf ha.sd⟩

/-! ### {key: v} -/
def tDisp1T (tk tv : TE) : TE := fun σ H Q => ∀ p, H p = none → tk σ (upd H p (.dT [])) fun x H1 => tv σ H1 fun y H2 => H2 p = some (.dT []) ∧ ∃ (k : List Key) (b : Addr), x = .ref b ∧ H2 b = some (.tup (k.map kV)) ∧ Q (.ref p) (upd H2 p (.dT [(k, y)]))
theorem pe_disp1T {k v : Expr} {tk tv : TE} (hu : X.A.units + 1 < cLine) (hk : PE X k tk) (hv : PE X v tv) : PE X (.Dict [some k] [v] pos) (tDisp1T tk tv) := by
  refine ⟨fun pins s σ H Q I q => ?_⟩
  have hn := I.hok.fresh (Nat.le_refl s.heap.objs.size)
  have I1 := I.laid (a := s.heap.objs.size) (o := .dT []) (h' := s.heap.push { cls := .type "dict", data := .dict #[] }) (t' := s.toks) (fun _ _ q => Heap.get?_push_of_some _ q) (Nat.le_refl _) (dt_empty s.heap I.big)
  have hz := zip_pairTrees [some k] [v] X.env pos rfl rfl
  rw [arm_eval_Dict, hz, dictDisplay_pairs (pairTrees [some k] [v] X.env pos) (by intro z; cases z) (by show 1 < 17; decide)]
  refine wpAny_bind (wpAny_standAt (wpAny_bind (wpAny_subDictH (knd := tupleKind (mixKind X.prog X.w)) (Q := fun d s' => wpAny (model X.prog X.w) X.A (pure (Value.ref d)) (EP X pins σ Q) X.xe s') (show X.A.units < cLine by omega) (by show 1 ≤ 15; decide) ?_)))
  refine pairTrees_cons_walk (thn (hk.run pins _ σ _ _ I1 (q _ hn)) fun u s1 ⟨x, H1, I2, rx, q1⟩ => thn (hv.run pins s1 σ H1 _ I2 q1) fun w2 s2 ⟨y, H2, I3, ry, e0, kk, b, ex, eb, q2⟩ => pairTrees_nil_walk ?_)
  subst ex
  obtain rfl : u = Value.ref b := rx
  obtain ⟨z, hd, xs, rel, dd⟩ := dt_of I3.hok e0
  cases rel
  refine ⟨[(kk, b, w2)], ⟨rfl, rfl, key_of I3.hok eb, trivial⟩, dd, fun h' tk' dd' hs => wpAny_pure ⟨.ref s.heap.objs.size, _, ?_, rfl, q2⟩⟩
  obtain ⟨o, es', ep, hq, h2, h3, h4, _, h5⟩ := dd'
  refine d_write I3 (by rw [e0]; exact True.intro) hs ⟨o, hq⟩ ⟨by show 1 ≤ sizeLine; decide, hd, [(kk, b, w2)], .cons ⟨rfl, ?_, ry⟩ .nil, o, es', ep, hq, h2, h3, h4, h5⟩
  rw [upd_ne (ne_of eb e0 (fun z => nomatch z))]
  exact eb
def mDisp1T (mk mv : ME) : ME := fun ρ => (mk ρ).bind fun k ρ1 => (mv ρ1).bind fun v ρ2 => R.of ((keyT k).bind fun q => some (.dT [(q, v)])) ρ2
theorem ev_disp1T {k v : Expr} {tk tv : TE} {mk mv : ME} (hu : X.A.units + 1 < cLine) (hk : EV X ks W k .leaf tk mk) (hv : EV X ks W v .leaf tv mv) : EV X ks W (.Dict [some k] [v] pos) (.dic .leaf) (tDisp1T tk tv) (mDisp1T mk mv) := by
  refine ⟨pe_disp1T hu hk.pe hv.pe, fun ρ σ F H fp Q r hok p np => ?_⟩
  have nF : F p = none := sub_none r.sub np
  obtain ⟨r1, nd1, x1⟩ := (upd_alcH (o := .dT []) r.sub np).rel (fv := [p]) r (fun y m => by simp at m; subst m; exact np) (by simp)
  have x1' : Ext F H fp F (upd H p (.dT [])) fp := x1.sub fun y m => List.mem_append_left _ m
  have pfp : p ∉ fp := fun m => (List.nodup_append.mp nd1).2.2 p m p (by simp) rfl
  unfold mDisp1T at hok
  refine hk.sd.go r1 (Ok := OkE (bd X ks W) (.dic .leaf) F H fp σ Q) hok (fun z => z) (fun _ _ z => OkX.ext x1' z) fun kd ρ1 x F1 H1 fp1 h1 r2 x2 p1 => ?_
  refine hv.sd.go r2 (Ok := OkE (bd X ks W) (.dic .leaf) F H fp σ Q) h1 (fun z => z) (fun _ _ z => OkX.ext (x1'.trans x2) z) fun vd ρ2 y F2 H2 fp2 h2 r3 x3 p2 => ?_
  have xx := x2.trans x3
  have xa := x1'.trans xx
  obtain ⟨k1, k2⟩ := xx.keep p (.dT []) upd_same pfp
  refine ⟨k1, ?_⟩
  cases ek : keyT kd with
  | none => rw [ek] at h2; exact (show False from h2).elim
  | some q =>
    rw [ek] at h2
    obtain ⟨b, b1, b2⟩ := keyTE r3.sub (.rep (p1.mono (r2.same x3))) ek
    refine ⟨q, b, b1, b2, ?_⟩
    have nF2 : F2 p = none := k2.trans nF
    have pn : p ∉ fp2 := fun m => by
      rcases xx.fr p m with z | z
      · exact pfp z
      · rw [upd_same] at z; cases z
    refine h2 (.ref p) F2 _ fp2 [p] ⟨sub_updH r3.sub nF2 (by intro _ z; cases z), r3.nd, r3.sl.frame (fun a o e => e) fun a m => ⟨(r3.sl.own a m).1, upd_ne fun z => pn (z ▸ m)⟩⟩ ?_ ⟨fun a o e n => ?_, fun a m => ?_⟩ (.dT nF2 upd_same rfl (ORs.ofReps (.cons p2 .nil)))
    · refine List.nodup_append.mpr ⟨r3.nd, by simp, fun a m y m' z => ?_⟩
      simp at m'
      subst m' z
      exact pn m
    · have na : a ≠ p := fun z => by rw [z, np] at e; cases e
      rw [upd_ne na]
      exact xa.keep a o e n
    · rcases List.mem_append.mp m with m | m
      · exact xa.fr a m
      · simp at m; subst m; exact .inr np
end
end VL
/-! V27: a list unpacked. -/
namespace VL
open PySem PySem.Spec L2
def kLst' (k : Nat) (n : List D → DEnv → Option DEnv) : D → DEnv → Option DEnv
  | .lst ds, ρ => if ds.length = k then n ds ρ else none
  | _, _ => none
theorem kv_glst {X : Cx} {ks : List Sh} {T : St → St → Prop} {ts : List Expr} {gs : TGs} {n : Nat} {j : Nat} {m : List D → DEnv → Option DEnv} {pos : Pos} (K : PySem.W.Frag) (hK : X.K = K) (hc : X.calm = true) (h : GVs X ks T ts gs m) (hn : (assignEach ts X.env).length = n := by rfl) (hst : (assignEach ts X.env).findIdx? (·.1) = none := by rfl) :
    GV X ks T (.Tuple ts j pos) (gLst K n gs) (kLst' n m) := by
  subst hK
  refine ⟨pg_lst hc h.pe hn hst, fun d v ρ σ F H fp ρ' Q r rp e kk => ?_⟩
  cases d with
  | lst ds =>
    cases rp with
    | lst q1 q2 =>
      have e' : (if ds.length = n then m ds ρ else none) = some ρ' := e
      by_cases c : ds.length = n
      · rw [if_pos c] at e'
        exact ⟨_, _, rfl, .of (r.sub _ _ q1), by rw [q2.length]; exact c, h.sd ds _ ρ σ F H fp ρ' Q r q2 e' kk⟩
      · rw [if_neg c] at e'; cases e'
  | _ => cases e
section
variable {ρ : DEnv} {i : Nat}
@[simp] theorem e_kLst (l : List D → DEnv → Option DEnv) (ds : List D) : kLst' i l (.lst ds) ρ = if ds.length = i then l ds ρ else none := rfl
@[simp] theorem e_Ks (m : ME) : mKs m ρ = (m ρ).bind asKy := rfl
@[simp] theorem e_Its (m : ME) : mIts m ρ = (m ρ).bind asIt := rfl
@[simp] theorem e_key (t : MA) : mKey t ρ = (t ρ).bind fun ds ρ1 => if ds.length ≤ 16777216 then R.of ((keyTs ds).bind fun k => some (.key k)) ρ1 else .no := rfl
@[simp] theorem e_get (mo : MO) (mk mx : ME) : mGet mo mk mx ρ = (mo ρ).bind fun o ρ1 => if (o.get ρ1).any D.isDc = true then (mk ρ1).bind fun k ρ2 => (mx ρ2).bind fun x ρ3 => R.of ((o.get ρ3).bind fun d => getD3 d k x) ρ3 else .no := rfl
end
end VL
/-! V28: count of whole numbers in a list. -/
namespace VL
open PySem PySem.Spec L2
def mCntI (mo : MO) (m : ME) : ME := fun ρ => (mo ρ).bind fun o ρ1 => match o.get ρ1 with
  | some (.lst _) => (m ρ1).bind fun e ρ2 => (match o.get ρ2, e with
    | some (.lst ds), .int z => (match asInts ds with | some ys => .ok (.int (ys.count z : Nat)) ρ2 | none => .no)
    | _, _ => .no)
  | _ => .no
theorem ev_cntI {X : Cx} {ks : List Sh} {W : WX} {a c : Expr} {ta tc : TE} {mo : MO} {m : ME} {apos cpos : Pos} (K : PySem.W.Frag) (hK : X.K = K) (ho : EO X ks W a ta mo) (hc : EV X ks W c .leaf tc m)
    (hbase : attributeBase a "count" X.env (eval a X.env) = eval a X.env := by rfl)
    (hfew : ((backTo cpos (starEach [c] X.env)).all (fun x => !x.1) && (backToKw cpos (keywordEach [] X.env)).all (fun x => x.1.isSome)
      && decide (([c] : List Expr).length + ([] : List Keyword).length + (if ([] : List Keyword).isEmpty then 0 else 1) < 30)) = true := by rfl)
    (hline : (apos.endLine == cpos.line) = true := by rfl) (hs : starEach [c] X.env = (false, eval c X.env) :: starEach [] X.env := by rfl) (hpl : (backTo cpos (starEach [] X.env)).any (·.1) = false := by rfl) :
    EV X ks W (.Call (.Attribute a "count" apos) [c] [] cpos) .leaf (tBM K "list" (rCntI K) ta (tCons tc tNil)) (mCntI mo m) := by
  subst hK
  refine ⟨pe_bm PySem.F.plainAttrs_list PySem.F.slot_list_count PySem.F.type_list_count mt_lcount ho.pe (pa_cons hc.pe pa_nil hs) hbase hfew hline hs hpl, fun ρ σ F H fp Q r0 hok => ?_⟩
  unfold mCntI at hok
  refine ho.sd.go r0 (Ok := OkE (bd X ks W) .leaf F H fp σ Q) hok (fun z => z) (fun _ _ z => z) fun o ρ1 v F1 H1 fp1 h1 r1 x1 o1 => ?_
  split at h1
  · rename_i ds0 e0
    obtain ⟨p, vs, rfl, q1, q2⟩ := (o1.vw r1 e0).lstE r1.sub
    refine ⟨.inl ⟨rfl, _, .inl (.inl q1)⟩, ?_⟩
    refine hc.sd.go r1 (Ok := OkE (bd X ks W) .leaf F1 H1 fp1 σ Q) (h1.ext x1) (fun z => z) (fun _ _ z => z) fun e ρ2 u F2 H2 fp2 h2 r2 x2 o2 => ?_
    have o1' := o1.mono (r1.same x2)
    split at h2
    · rename_i ds z e1
      split at h2
      · rename_i ys ea
        obtain ⟨p', vs', ep, q3, q4⟩ := (o1'.vw r2 e1).lstE r2.sub
        cases ep
        have ev := reps_asInts q4 ea
        subst ev
        have eu : u = .int z := by cases o2; rfl
        subst eu
        exact ⟨p, ys, z, rfl, rfl, .inl (.inl q3), ((h2.ext x2).done r2).here r2.sub (.int _)⟩
      · exact (show False from h2).elim
    · exact (show False from h2).elim
  · exact (show False from h1).elim
end VL
/-! V29: list(range(a, b)). -/
namespace VL
open PySem PySem.Spec L2
theorem reps_rg {K : PySem.W.Frag} {F : Hp} (a : Int) : ∀ l : List Nat, Reps K F (l.map fun i => V.int (a + (i : Nat))) (l.map fun i => D.int (a + (i : Nat)))
  | [] => .nil
  | _ :: l => .cons (.int _) (reps_rg a l)
def mLR2 (ma mc : ME) : ME := fun ρ => (ma ρ).bind fun d ρ1 => match d with
  | .int i => (mc ρ1).bind fun e ρ2 => (match e with
    | .int j => if -1000000 ≤ i ∧ i ≤ 1000000 ∧ -1000000 ≤ j ∧ j ≤ 1000000 then .ok (.lst (rangeD i (j - i).toNat)) ρ2 else .no
    | _ => .no)
  | _ => .no
theorem ev_lstR2 {X : Cx} {ks : List Sh} {W : WX} {a c : Expr} {ta tc : TE} {ma mc : ME} {p pos p2 pos2 : Pos} (hcalm : X.calm = true) (ha : EV X ks W a .leaf ta ma) (hc : EV X ks W c .leaf tc mc) (hm : X.mg "list" = none) (hm2 : X.mg "range" = none) (hg : Gl X "list" := by rfl) (hg2 : Gl X "range" := by rfl)
    (na : starEach [.Call (.Name "range" p2) [a, c] [] pos2] X.env = (false, eval (.Call (.Name "range" p2) [a, c] [] pos2) X.env) :: starEach [] X.env := by rfl)
    (na2 : starEach [a, c] X.env = (false, eval a X.env) :: starEach [c] X.env := by rfl) (nb2 : starEach [c] X.env = (false, eval c X.env) :: starEach [] X.env := by rfl) (hp : (backTo pos2 (starEach [c] X.env)).any (·.1) = false := by rfl) :
    EV X ks W (.Call (.Name "list" p) [.Call (.Name "range" p2) [a, c] [] pos2] [] pos) (.lst .leaf) (tLstRg (tRg2 ta tc)) (mLR2 ma mc) := by
  refine ⟨pe_listRg hcalm hg hm (prg_2 hg2 hm2 ha.pe hc.pe na2 nb2 hp) na, fun ρ σ F H fp Q r0 hok => ?_⟩
  unfold mLR2 at hok
  refine ha.sd.go r0 (Ok := OkE (bd X ks W) (.lst .leaf) F H fp σ Q) hok (fun z => z) (fun _ _ z => z) fun d ρ1 v F1 H1 fp1 h1 r1 x1 p1 => ?_
  split at h1
  · rename_i i
    have ev : v = .int i := by cases p1; rfl
    subst ev
    refine hc.sd.go r1 (Ok := OkE (bd X ks W) (.lst .leaf) F1 H1 fp1 σ Q) (h1.ext x1) (fun z => z) (fun _ _ z => z) fun e ρ2 u F2 H2 fp2 h2 r2 x2 p2 => ?_
    split at h2
    · rename_i j
      have eu : u = .int j := by cases p2; rfl
      subst eu
      split at h2
      · refine ⟨i, j, rfl, rfl, ⟨by omega, by omega, by omega, by omega, by omega⟩, fun q n => ((h2.ext x2).done r2).newL r2.sub (reps_rg i _) n⟩
      · exact (show False from h2).elim
    · exact (show False from h2).elim
  · exact (show False from h1).elim
def mLR1 (ma : ME) : ME := fun ρ => (ma ρ).bind fun d ρ1 => match d with
  | .int i => if -1000000 ≤ i ∧ i ≤ 1000000 then .ok (.lst (rangeD 0 i.toNat)) ρ1 else .no
  | _ => .no
theorem ev_lstR1 {X : Cx} {ks : List Sh} {W : WX} {a : Expr} {ta : TE} {ma : ME} {p pos p2 pos2 : Pos} (hcalm : X.calm = true) (ha : EV X ks W a .leaf ta ma) (hm : X.mg "list" = none) (hm2 : X.mg "range" = none) (hg : Gl X "list" := by rfl) (hg2 : Gl X "range" := by rfl)
    (na : starEach [.Call (.Name "range" p2) [a] [] pos2] X.env = (false, eval (.Call (.Name "range" p2) [a] [] pos2) X.env) :: starEach [] X.env := by rfl)
    (na2 : starEach [a] X.env = (false, eval a X.env) :: starEach [] X.env := by rfl) :
    EV X ks W (.Call (.Name "list" p) [.Call (.Name "range" p2) [a] [] pos2] [] pos) (.lst .leaf) (tLstRg (tRg1 ta)) (mLR1 ma) := by
  refine ⟨pe_listRg hcalm hg hm (prg_1 hg2 hm2 ha.pe na2) na, fun ρ σ F H fp Q r0 hok => ?_⟩
  unfold mLR1 at hok
  refine ha.sd.go r0 (Ok := OkE (bd X ks W) (.lst .leaf) F H fp σ Q) hok (fun z => z) (fun _ _ z => z) fun d ρ1 v F1 H1 fp1 h1 r1 x1 p1 => ?_
  split at h1
  · rename_i i
    have ev : v = .int i := by cases p1; rfl
    subst ev
    split at h1
    · refine ⟨i, rfl, ⟨by omega, by omega, by omega, by omega, by omega⟩, fun q n => ?_⟩
      have e : i - 0 = i := by omega
      have := ((h1.ext x1).done r1).newL r1.sub (reps_rg (K := X.K) 0 (List.range i.toNat)) n
      unfold rgV
      rw [e]
      exact this
    · exact (show False from h1).elim
  · exact (show False from h1).elim
@[simp] theorem e_LR2 {ma mc : ME} {ρ : DEnv} : mLR2 ma mc ρ = (ma ρ).bind fun d ρ1 => match d with
  | .int i => (mc ρ1).bind fun e ρ2 => (match e with
    | .int j => if -1000000 ≤ i ∧ i ≤ 1000000 ∧ -1000000 ≤ j ∧ j ≤ 1000000 then .ok (.lst (rangeD i (j - i).toNat)) ρ2 else .no
    | _ => .no)
  | _ => .no := rfl
@[simp] theorem e_LR1 {ma : ME} {ρ : DEnv} : mLR1 ma ρ = (ma ρ).bind fun d ρ1 => match d with
  | .int i => if -1000000 ≤ i ∧ i ≤ 1000000 then .ok (.lst (rangeD 0 i.toNat)) ρ1 else .no
  | _ => .no := rfl
end VL
/-! V30: texts less than texts. -/
namespace VL
open PySem PySem.Spec L2
def ltSD : D → D → Option D
  | .str x, .str y => some (.bl (decide (x.cps.toList < y.cps.toList)))
  | _, _ => none
theorem s_ltS {K : PySem.W.Frag} : Op2 K .leaf (fun x y H Q => ∃ i j, x = .str i ∧ y = .str j ∧ Q (.bl (decide (i.cps.toList < j.cps.toList))) H) ltSD := by
  intro F H x y d e z Q sm hx hy hf ok
  cases d with
  | str i =>
    cases e with
    | str j =>
      cases hf
      exact ⟨i, j, hx.strE.1, hy.strE.1, ok.here sm (.bl _)⟩
    | _ => cases hf
  | _ => cases hf
@[simp] theorem d_ltS (x y : Str) : ltSD (.str x) (.str y) = some (.bl (decide (x.cps.toList < y.cps.toList))) := rfl
end VL
/-! V31: walks over a list or a tuple; told texts in a list of told texts. -/
namespace VL
open PySem PySem.Spec L2
def iSq (K : PySem.W.Frag) (te : TE) : TI := fun σ H Q => iList K te σ H Q ∨ iTup K te σ H Q
def mSqs (m : ME) : MA := fun ρ => match m ρ with
  | .ok (.lst _) _ => mLs m ρ
  | _ => mTs m ρ
theorem pi_or {X : Cx} {tg e : Expr} {w1 w2 : TI} (h1 : PI X tg e w1) (h2 : PI X tg e w2) : PI X tg e (fun σ H Q => w1 σ H Q ∨ w2 σ H Q) := by
  refine ⟨fun pins s σ H R I h => ?_⟩
  rcases h with h | h
  · exact h1.run pins s σ H R I h
  · exact h2.run pins s σ H R I h
theorem kv_seq {X : Cx} {ks : List Sh} {W : WX} {tg e : Expr} {te : TE} {me : ME} (K : PySem.W.Frag) (hK : X.K = K) (h : EV X ks W e .leaf te me) : IV X ks W tg e (iSq K te) (mSqs me) := by
  subst hK
  have a := iv_list (tg := tg) h
  have b := iv_tup (tg := tg) h
  refine ⟨pi_or a.pe b.pe, fun ρ σ F H fp Q α Ok f r hok hn hx k => ?_⟩
  unfold mSqs at hok
  split at hok
  · exact .inl (a.sd ρ σ F H fp Q Ok f r hok hn hx k)
  · exact .inr (b.sd ρ σ F H fp Q Ok f r hok hn hx k)
@[simp] theorem e_SqL {m : ME} {ρ ρ' : DEnv} {ds : List D} (h : m ρ = .ok (.lst ds) ρ') : mSqs m ρ = .ok ds ρ' := by
  unfold mSqs
  rw [h]
  show mLs m ρ = _
  unfold mLs
  rw [h]; rfl
@[simp] theorem e_SqT {m : ME} {ρ ρ' : DEnv} {ds : List D} (h : m ρ = .ok (.tup ds) ρ') : mSqs m ρ = .ok ds ρ' := by
  unfold mSqs
  rw [h]
  show mTs m ρ = _
  unfold mTs
  rw [h]; rfl
def asRps : List D → Option (List PyData)
  | [] => some []
  | .rp p :: ds => (asRps ds).bind fun ps => some (p :: ps)
  | _ :: _ => none
theorem reps_rps {K : PySem.W.Frag} {F : Hp} : ∀ {vs : List V} {ds : List D} {ps : List PyData}, Reps K F vs ds → asRps ds = some ps → vs = ps.map fun p => V.str p.shown
  | _, _, _, .nil, e => by cases e; rfl
  | _, _, ps, .cons (d := d) q t, e => by
    cases d with
    | rp p =>
      unfold asRps at e
      obtain ⟨qs, e1, e2⟩ := optb e
      cases e2
      rw [List.map_cons, ← reps_rps t e1]
      cases q; rfl
    | _ => cases e
def inRpD : D → D → Option D
  | .rp p, .lst ds => (asRps ds).bind fun ps => some (.bl (inV (.str p.shown) (ps.map fun q => V.str q.shown)))
  | _, _ => none
theorem s_inRp {K : PySem.W.Frag} : Op2 K .leaf (rIn K false) inRpD := by
  intro F H x y d e z Q sm hx hy hf ok
  cases d with
  | rp p =>
    cases e with
    | lst ds =>
      obtain ⟨ps, e1, e2⟩ := optb (show ((asRps ds).bind fun ps => some (D.bl (inV (.str p.shown) (ps.map fun q => V.str q.shown)))) = some z from hf)
      cases e2
      obtain ⟨q, vs, rfl, q1, q2⟩ := hy.lstE sm
      have ev := reps_rps q2 e1
      subst ev
      have ex : x = .str p.shown := hx.rpE
      subst ex
      exact ⟨q, _, rfl, .inl (.of q1), rfl, by rw [List.all_map]; exact List.all_eq_true.mpr fun _ _ => rfl, ok.here sm (.bl _)⟩
    | _ => cases hf
  | _ => cases hf
theorem k_inRp {X : Cx} (K : PySem.W.Frag) (hK : X.K = K) : OpR X (compareOp .In) (rIn K false) := hK ▸ op_in_seq
end VL
/-! V32: the least of a tuple of whole numbers. -/
namespace VL
open PySem PySem.Spec L2 PyProof.Rows
section
variable {prog : Program} {w : World} {A : Around} {E : Value → Shared → Prop} {s : Shared} {l : Addr} {its : List Value} {ns : List Int} {Q : Value → Shared → Prop}
theorem min_intTup {xs : Array (Int × Tok)} (hh : A.handled = none) (hl : s.heap.IsTuple l (intItems xs)) (hne : 0 < xs.size)
    (h : ∀ v h' tk, (intItems xs)[argBest (fun i j => decide (numAt xs i < numAt xs j)) (xs.size - 1)]? = some v → (∀ b o, s.heap.get? b = some o → h'.get? b = some o) → Q v { s with heap := h', toks := tk }) :
    wpAny (model prog w) A (call (.builtin "min") [.ref l]) Q E s := by
  have hlt : l < s.heap.objs.size := by
    obtain ⟨o, e, _⟩ := hl
    exact Heap.lt_size e
  refine call_min_walk (wpAny_pyIter_tuple hl ?_)
  refine ⟨_, [_, l], [_], _, _, _, _, rfl, Walks.tuple (A := A.in1) hh _ l (Nat.ne_of_lt hlt) (intItems xs),
    ⟨⟨_, Heap.get?_push_size _ rfl, rfl, rfl⟩, hl.push _⟩, fun c hc => ?_, by simpa [intItems] using hne, CmpOf.ints_lt (numAt xs) (fun _ _ => intItems_at), fun v h' tk hP hk => ?_⟩
  · show c < ((s.heap.push _)).objs.size
    rw [Heap.size_push]
    rcases List.mem_cons.mp hc with rfl | hc
    · exact Nat.lt_succ_self _
    · rcases List.mem_cons.mp hc with rfl | hc
      · exact Nat.lt_succ_of_lt hlt
      · cases hc
  · have hold : ∀ c o, s.heap.get? c = some o → h'.get? c = some o := fun c o e => by
      refine hk c o (fun hm => ?_) (Heap.get?_push_of_some _ e)
      rcases List.mem_cons.mp hm with e1 | hm
      · have := Heap.lt_size e; rw [e1] at this; exact Nat.lt_irrefl _ this
      · cases hm
    exact h v h' tk (by simpa [intItems] using hP) hold
theorem min_rawT (hh : A.handled = none) (hl : s.heap.IsTuple l its.toArray) (hi : IntsAre its ns) (hne : 0 < ns.length)
    (h : ∀ h' tk M t', (∀ b o, s.heap.get? b = some o → h'.get? b = some o) → M ∈ ns → (∀ a, a ∈ ns → M ≤ a) → Q (.int M t') { s with heap := h', toks := tk }) : wpAny (model prog w) A (call (.builtin "min") [.ref l]) Q E s := by
  obtain ⟨xs, e⟩ := hi.allInts.items
  have hn : numsOf (intItems xs).toList = ns := by rw [← e]; exact hi.numsOf
  rw [nums_intItems] at hn
  subst hn
  rw [e] at hl
  have hsz : 0 < xs.size := by simpa using hne
  refine min_intTup hh hl hsz fun v h' tk hv hk => ?_
  obtain ⟨t, rfl⟩ := intItems_at hv
  obtain ⟨h1, h2⟩ := argBest_lt (numAt xs) (xs.size - 1)
  refine h h' tk _ t hk ?_ fun a ha => ?_
  · rw [numAt_eq]; exact PySem.getD_mem (by rw [List.length_map, Array.length_toList]; omega)
  · obtain ⟨j, hj, rfl⟩ := mem_getD ha
    rw [List.length_map, Array.length_toList] at hj
    rw [← numAt_eq]; exact h2 j (by omega)
end
def rMinT (K : PySem.W.Frag) : List V → Hp → VK → Prop := fun vs H Q => ∃ (a : Addr) (ns : List Int), vs = [V.ref a] ∧ SqT K H a (ns.map V.int) ∧ 0 < ns.length ∧ ∀ m, m ∈ ns → (∀ y, y ∈ ns → m ≤ y) → Q (.int m) H
theorem cr_minT {X : Cx} (hc : X.calm = true) : CallR X (.builtin "min") (rMinT X.K) := by
  intro pins s σ H vs us Q I r h
  obtain ⟨a, ns, rfl, hs, hne, q⟩ := h
  obtain ⟨its, rv, hl, _⟩ := I.tuple hs
  rw [Vals.ref1 r]
  have hl2 : s.heap.IsTuple a its.toArray := by
    obtain ⟨o, h1, h2, n, h3⟩ := hl
    exact ⟨o, h1, h2, n, h3⟩
  exact min_rawT (I.ok.hd hc) hl2 rv.ints hne fun h' tk m t' hk h1 h2 => ⟨.int _, H, I.kept hk, ⟨_, rfl⟩, q m h1 h2⟩
def minTD : D → Option D
  | .tup ds => (asInts ds).bind fun bs => match bs with | [] => none | m :: r => some (.int (lowI m r))
  | _ => none
theorem s_minT {K : PySem.W.Frag} : OpN K .leaf (rMinT K) (one minTD) := by
  refine s_one fun F H x d z Q sm h e ok => ?_
  cases d with
  | tup ds =>
    obtain ⟨bs, e2, e⟩ := optb (show ((asInts ds).bind fun bs => match bs with | [] => none | m :: r => some (D.int (lowI m r))) = some z from e)
    obtain ⟨p, vs, e1, e3, e4, r⟩ := h.tupR sm
    subst e1
    have ev := reps_asInts r e2
    subst ev
    cases bs with
    | nil => cases e
    | cons m t =>
      cases e
      refine ⟨p, m :: t, rfl, e3, Nat.zero_lt_succ _, fun k hk hl => ?_⟩
      obtain ⟨s1, s2⟩ := lowI_spec t m
      have : k = lowI m t := Int.le_antisymm (hl _ s1) (s2 _ hk)
      subst this
      exact ok.here sm (.int _)
  | _ => cases e
theorem k_minT {X : Cx} (K : PySem.W.Frag) (hK : X.K = K) (hc : X.calm = true) : CallR X (.builtin "min") (rMinT K) := hK ▸ cr_minT hc
end VL
/-! V33: the begin of a def that calls itself. -/
namespace VL
open PySem PySem.Spec L2
theorem fng_none {P : Program} {w : World} {K : PySem.W.Frag} {mg : Str → Option Value} {base : Heap} {CX : CXT} {k : Nat} {f : Addr} {fd : FuncData} {ps : List Str} {n : Nat} {psh : List Sh} {fx : Nat} {rsh : Sh} : FnG P w K mg base CX k f fd ps (spV K mg n psh fx rsh fun _ => .no) :=
  ⟨fun _ _ _ _ h => by
    obtain ⟨_, _, _, _, _, ok⟩ := h
    exact (show False from ok).elim, fun _ _ _ _ _ _ _ _ _ _ _ _ _ _ h => by
    obtain ⟨_, _, _, _, _, ok⟩ := h
    exact (show False from ok).elim⟩
end VL
/-! V34: the sum of a tuple of whole numbers. -/
namespace VL
open PySem PySem.Spec L2 PyProof.Rows
def rSumT (K : PySem.W.Frag) : List V → Hp → VK → Prop := fun vs H Q => ∃ (a : Addr) (ns : List Int), vs = [V.ref a] ∧ SqT K H a (ns.map V.int) ∧ Q (.int ns.sum) H
theorem cr_sumT {X : Cx} (hc : X.calm = true) : CallR X (.builtin "sum") (rSumT X.K) := by
  intro pins s σ H vs us Q I r h
  obtain ⟨a, is, rfl, hs, q⟩ := h
  obtain ⟨its, rv, hl0, _⟩ := I.tuple hs
  rw [Vals.ref1 r]
  have hl : s.heap.IsTuple a its.toArray := by
    obtain ⟨o, h1, h2, n, h3⟩ := hl0
    exact ⟨o, h1, h2, n, h3⟩
  have hlt : a < s.heap.objs.size := by
    obtain ⟨o, e, _⟩ := hl
    exact Heap.lt_size e
  have hlen : its.length = is.length := by
    have := rv.length
    rw [List.length_map] at this
    exact this.symm
  have hval : ∀ (i : Nat) (v : Value), its.toArray[i]? = some v → ∃ t, v = Value.int (is.getD i 0) t := fun i v hv => by
    rw [List.getElem?_toArray] at hv
    have hi := (List.getElem?_eq_some_iff.mp hv).1
    have hx : is[i]? = some is[i] := List.getElem?_eq_getElem (by omega)
    obtain ⟨u, h1, h2⟩ := L2.Vals.get rv (i := i) (x := V.int is[i]) (by rw [List.getElem?_map, hx]; rfl)
    rw [hv] at h1
    cases h1
    obtain ⟨t, e⟩ := h2
    exact ⟨t, by rw [e, List.getD_eq_getElem?_getD, hx]; rfl⟩
  refine call_sum_walkAnyS (wpAny_pyIter_tuple hl ?_)
  refine ⟨_, [_, a], [_], _, _, _, _, fun i => is.getD i 0, rfl, (Walks.tuple (A := X.A.in1) (I.ok.hd hc) _ a (Nat.ne_of_lt hlt) its.toArray).toS, ⟨⟨_, Heap.get?_push_size _ rfl, rfl, rfl⟩, hl.push _⟩, fun c hc => ?_, hval, fun s' t' hm => ?_⟩
  · show c < ((s.heap.push _)).objs.size
    rw [Heap.size_push]
    rcases List.mem_cons.mp hc with rfl | hc
    · exact Nat.lt_succ_self _
    · rcases List.mem_cons.mp hc with rfl | hc
      · exact Nat.lt_succ_of_lt hlt
      · cases hc
  · rw [Moved.eq_with hm]
    have es : preSum (fun i => is.getD i 0) its.toArray.size = is.sum := by
      have q1 : ∀ n, n ≤ is.length → preSum (fun i => is.getD i 0) n = (is.take n).sum := by
        intro n
        induction n with
        | zero => intro _; rfl
        | succ n ih =>
          intro hn
          show preSum _ n + is.getD n 0 = _
          have hx : is[n]? = some is[n] := List.getElem?_eq_getElem hn
          rw [ih (by omega), List.take_succ, hx, List.sum_append, List.getD_eq_getElem?_getD, hx]
          simp
      rw [List.size_toArray, hlen, q1 _ (Nat.le_refl _), List.take_length]
    rw [es]
    refine ⟨.int _, H, I.kept (t' := s'.toks) fun b u e => hm.heap b u (fun hmem => ?_) (Heap.get?_push_of_some _ e), ⟨t', rfl⟩, q⟩
    have e2 := Heap.lt_size e
    rcases List.mem_cons.mp hmem with e1 | hmem
    · rw [e1] at e2; exact Nat.lt_irrefl _ e2
    · cases hmem
def sumTD : D → Option D
  | .tup ds => (asInts ds).bind fun bs => some (.int bs.sum)
  | _ => none
theorem s_sumT {K : PySem.W.Frag} : OpN K .leaf (rSumT K) (one sumTD) := by
  refine s_one fun F H x d z Q sm h e ok => ?_
  cases d with
  | tup ds =>
    obtain ⟨bs, e2, e⟩ := optb (show ((asInts ds).bind fun bs => some (D.int bs.sum)) = some z from e)
    cases e
    obtain ⟨p, vs, e1, e3, e4, r⟩ := h.tupR sm
    subst e1
    have ev := reps_asInts r e2
    subst ev
    exact ⟨p, bs, rfl, e3, ok.here sm (.int _)⟩
  | _ => cases e
theorem k_sumT {X : Cx} (K : PySem.W.Frag) (hK : X.K = K) (hc : X.calm = true) : CallR X (.builtin "sum") (rSumT K) := hK ▸ cr_sumT hc
end VL
/-! V35: a slot's shape changes for the rest of a block (what it held is forgotten). -/
namespace VL
open PySem PySem.Spec L2
def R.mapE {α : Type} (f : DEnv → DEnv) : R α → R α
  | .ok a ρ => .ok a (f ρ)
  | .ex e ρ => .ex e (f ρ)
  | .no => .no
def mResh (i : Nat) (m : MS) : MS := fun ρ => (m (ρ.set i none)).mapE (fun ρ => ρ.set i none)
theorem RelL.resh {K : PySem.W.Frag} {F H : Hp} (s : Sh) : ∀ {ks : List Sh} {ρ : DEnv} {σ : St} {fp : List Addr} (i : Nat), RelL K F H ks ρ σ fp → ∃ g, RelL K F H (ks.set i s) (ρ.set i none) σ g ∧ g.Sublist fp
  | _, _, _, _, i, .nil => ⟨[], .nil, .refl _⟩
  | _, _, _, _, 0, .non r => ⟨_, .non r, .refl _⟩
  | _, _, _, _, 0, .som o r => ⟨_, .non r, List.sublist_append_right _ _⟩
  | _, _, _, _, i + 1, .non r => by
    obtain ⟨g, a, b⟩ := RelL.resh s i r
    exact ⟨g, .non a, b⟩
  | _, _, _, _, i + 1, .som o r => by
    obtain ⟨g, a, b⟩ := RelL.resh s i r
    exact ⟨_, .som o a, List.Sublist.append (.refl _) b⟩
theorem Rel.resh {K : PySem.W.Frag} {ks : List Sh} {F H : Hp} {ρ : DEnv} {σ : St} {fp : List Addr} (r : Rel K ks F H ρ σ fp) (i : Nat) (s : Sh) : ∃ g, Rel K (ks.set i s) F H (ρ.set i none) σ g ∧ g.Sublist fp := by
  obtain ⟨g, a, b⟩ := r.sl.resh s i
  exact ⟨g, ⟨r.sub, r.nd.sublist b, a⟩, b⟩
theorem set_backS (ks : List Sh) (i : Nat) (s : Sh) : ∃ s0, (ks.set i s).set i s0 = ks := by
  refine ⟨ks.getD i .leaf, ?_⟩
  rw [List.set_set]
  refine List.ext_getElem? fun j => ?_
  by_cases e : i = j
  · subst e
    rw [List.getElem?_set]
    by_cases h : i < ks.length
    · simp [h]
    · simp [h]
  · rw [List.getElem?_set_ne e]
section
variable {X : Cx} {ks : List Sh} {W : WX} {rsh : Sh} {fx : Nat} {sts : List Stmt} {t : TS} {m : MS}
theorem svs_resh (i : Nat) (s : Sh) (h : SVs X (ks.set i s) W rsh fx sts t m) : SVs X ks W rsh fx sts t (mResh i m) := by
  refine ⟨h.pe, fun ρ σ F H fp D r hok => ?_⟩
  obtain ⟨g, r1, s1⟩ := r.resh i s
  refine h.sd (ρ.set i none) σ F H g D r1 ?_
  unfold mResh at hok
  obtain ⟨s0, e0⟩ := set_backS ks i s
  have ext : ∀ {F' H' : Hp} {gp fp' : List Addr}, Ext F H g F' H' fp' → (∀ y ∈ gp, y ∈ fp') → Ext F H fp F' H' gp := fun x hs => ⟨fun a o e n => x.keep a o e fun z => n (s1.subset z), fun a ma => by
    rcases x.fr a (hs a ma) with q | q
    · exact .inl (s1.subset q)
    · exact .inr q⟩
  cases em : m (ρ.set i none) with
  | no => rw [em] at hok; exact hok
  | ex x ρ1 =>
    rw [em] at hok
    intro cls dx σ' F' H' fp' r' x' q ex
    obtain ⟨gp, r2, s2⟩ := r'.resh i s0
    change Rel X.K ((ks.set i s).set i s0) F' H' (ρ1.set i none) σ' gp at r2
    rw [e0] at r2
    exact hok cls dx σ' F' H' gp r2 (ext x' fun y m => s2.subset m) q ex
  | ok f ρ1 =>
    rw [em] at hok
    cases f with
    | nx =>
      intro σ' F' H' fp' r' x' q
      obtain ⟨gp, r2, s2⟩ := r'.resh i s0
      change Rel X.K ((ks.set i s).set i s0) F' H' (ρ1.set i none) σ' gp at r2
      rw [e0] at r2
      exact hok σ' F' H' gp r2 (ext x' fun y m => s2.subset m) q
    | rt d =>
      intro v σ' F' H' fp' fv r' nd x' q o
      obtain ⟨gp, r2, s2⟩ := r'.resh i s0
      change Rel X.K ((ks.set i s).set i s0) F' H' (ρ1.set i none) σ' gp at r2
      rw [e0] at r2
      refine hok v σ' F' H' gp fv r2 (nd.sublist (List.Sublist.append s2 (.refl _))) (ext x' fun y m => ?_) q o
      rcases List.mem_append.mp m with m | m
      · exact List.mem_append_left _ (s2.subset m)
      · exact List.mem_append_right _ m
end
end VL
/-! V36: refusals: __init__ of own exception classes, raise, try .. except .. as e, isinstance(e, ..), e.field. -/
namespace VL
open PySem PySem.Spec L2

/-! ### B.__init__(self, ..), B an own class whose __init__ is ValueError's -/
theorem pe_cinit {X : Cx} {x : Str} {B : Addr} {mc : Value} {e : Expr} {es : List Expr} {ta : TA} {p1 p2 pos : Pos} {pl : Sem Bool} (hg : Gl X x) (gB : X.mg x = some (.ref B)) (rd : ClX.CRead X.K B mc)
    (vV : PySem.W.findCls X.K (.ref B) mc "__init__" = some (.val (.builtin "ValueError.__init__"))) (ha : PA X (e :: es) ta) (hdb : (x == ("__debug__" : Str)) = false := by decide)
    (hc : eval (.Call (.Attribute (.Name x p1) "__init__" p2) (e :: es) [] pos) X.env = (do
      let ov ← eval (.Name x p1) X.env
      standAt p2.atName
      let (f, first) ← holding [ov] (getMethod ov "__init__" pl)
      callWith pos f first (backTo pos (starEach (e :: es) X.env)) (backToKw pos (keywordEach [] X.env))) := by rfl)
    (he : starEach (e :: es) X.env = (false, eval e X.env) :: starEach es X.env := by rfl) (hpl : (backTo pos (starEach es X.env)).any (·.1) = false := by rfl) :
    PE X (.Call (.Attribute (.Name x p1) "__init__" p2) (e :: es) [] pos) (tVeI X.K ta) := by
  refine ⟨fun pins s σ H Q I h => ?_⟩
  refine PySem.W.methodCall_KW (ld_glob I hg gB ?_ hdb) hc
  refine PySem.W.method_cls I.kIn rd.ga (PySem.W.cls_value I.kIn rd.rd vV (by decide +kernel) ?_)
  show wpAny _ _ (callWith pos (Value.builtin "ValueError.__init__") [] (backTo pos (starEach (e :: es) X.env)) []) _ _ _
  refine PyProof.Rows.callWith_method1 (thn (ha.run pos pins _ σ H _ (I.tok _) h) fun us s1 ⟨vs, H1, I1, r1, a, C, ws, ev, hl, T, ea, q⟩ => ?_) he hpl
  subst ev
  cases r1 with
  | @cons _ u0 _ ur ra rw' =>
    obtain rfl : u0 = Value.ref a := ra
    have hlen : ur.length ≤ sizeLine := by
      rw [← Paired.length rw', sizeLine_eq]
      omega
    exact oinit_ok T I1 ea hlen fun s' J => ⟨.non, H1, J, rfl, q⟩

/-! ### __init__: its promise -/
def zipr (fs : List Str) (ws : List V) : List (Str × V) := (fs.zip ws).reverse
def spI (K : PySem.W.Frag) (C : Addr) (fs : List Str) : Sp := fun vs H Q _ => ∃ a ws, vs = .ref a :: ws ∧ ws.length = fs.length ∧ H a = some (exo a C none) ∧
  ∀ dx H', H dx = none → dx ≠ a → H' a = some (exo a C (some dx)) → H' dx = some (exd dx (zipr fs ws)) → (∀ b, b ≠ a → b ≠ dx → H' b = H b) → Q .non H'
/-- one field -/
theorem init_end1 {K : PySem.W.Frag} {C : Addr} {f : Str} {vs : List V} {H : Hp} {Q : VK} {E : XK} (T : OexC K C) (no : PySem.W.findIn K (.ref C) f = some none) (h : spI K C [f] vs H Q E) {N : List Str} (hN : N.length = 2) :
    (tSeq (tDrop (tVeI K (tCons (tVar 0) (tCons (tVar 1) tNil)))) (tOst K f (tVar 0) (tVar 1))) { nx := fun _ H' => Q .non H', rt := Q } (L2.start N vs) H := by
  obtain ⟨a, ws, rfl, hl, ea, k⟩ := h
  obtain ⟨y, rfl⟩ : ∃ y, ws = [y] := by
    match ws, hl with
    | [y], _ => exact ⟨y, rfl⟩
  have e : L2.start N [.ref a, y] = [some (.ref a), some y] := by
    unfold L2.start
    rw [hN]; rfl
  rw [e]
  refine ⟨_, rfl, _, rfl, a, C, [y], rfl, by simp, T, ea, ?_⟩
  refine ⟨_, rfl, _, rfl, a, C, rfl, T, no, .inl ⟨ea, fun dx n ne => ?_⟩⟩
  refine k dx _ n ne upd_same ?_ fun b h1 h2 => ?_
  · rw [upd_ne ne, upd_same]; rfl
  · rw [upd_ne h1, upd_ne h2]
/-- two -/
theorem init_end2 {K : PySem.W.Frag} {C : Addr} {f g : Str} {vs : List V} {H : Hp} {Q : VK} {E : XK} (T : OexC K C) (no : PySem.W.findIn K (.ref C) f = some none) (no2 : PySem.W.findIn K (.ref C) g = some none) (h : spI K C [f, g] vs H Q E) {N : List Str} (hN : N.length = 3) :
    (tSeq (tDrop (tVeI K (tCons (tVar 0) (tCons (tVar 1) (tCons (tVar 2) tNil))))) (tSeq (tOst K f (tVar 0) (tVar 1)) (tOst K g (tVar 0) (tVar 2)))) { nx := fun _ H' => Q .non H', rt := Q } (L2.start N vs) H := by
  obtain ⟨a, ws, rfl, hl, ea, k⟩ := h
  obtain ⟨y, z, rfl⟩ : ∃ y z, ws = [y, z] := by
    match ws, hl with
    | [y, z], _ => exact ⟨y, z, rfl⟩
  have e : L2.start N [.ref a, y, z] = [some (.ref a), some y, some z] := by
    unfold L2.start
    rw [hN]; rfl
  rw [e]
  refine ⟨_, rfl, _, rfl, _, rfl, a, C, [y, z], rfl, by simp, T, ea, ?_⟩
  refine ⟨_, rfl, _, rfl, a, C, rfl, T, no, .inl ⟨ea, fun dx n ne => ?_⟩⟩
  refine ⟨_, rfl, _, rfl, a, C, rfl, T, no2, .inr ⟨dx, [(f, y)], upd_same, by rw [upd_ne ne, upd_same], by simp, ?_⟩⟩
  refine k dx _ n ne ?_ upd_same fun b h1 h2 => ?_
  · rw [upd_ne ne.symm, upd_same]
  · rw [upd_ne h2, upd_ne h1, upd_ne h2]

/-! ### raise -/
/-- what is asked of a class that is raised: c its name, fs its fields -/
structure ExK (P : Program) (w : World) (K : PySem.W.Frag) (mg : Str → Option Value) (base : Heap) (c : Str) (fs : List Str) (C : Addr) : Prop where
  gC : mg c = some (.ref C)
  ox : OexC K C
  iC : ∃ fI fd ps, PySem.W.findIn K (.ref C) "__init__" = some (some (.ref fI)) ∧ PySem.W.typeIn K (.ref fI) = some (.type "function") ∧ FnOk P w K mg base CX0 1 fI fd ps (spI K C fs) ∧ Binds K fd ps []
/-- .. that has no fields and no __init__ of its own -/
structure ExN (K : PySem.W.Frag) (mg : Str → Option Value) (c : Str) (C : Addr) : Prop where
  gC : mg c = some (.ref C)
  ex : ∃ B newId initId bmB, ExcBaseFacts B newId initId bmB ∧ PySem.W.excIn K C bmB newId = true
  kC : PySem.W.keepIn K (.ref C) = true
  bC : PySem.W.subIn K (.ref C) (.type "BaseException") = some true
  tC : PySem.W.typeIn K (.ref C) = some (.type "type")
def mRaise (c : Str) (fs : List Str) (a : MA) : MS := fun ρ => (a ρ).bind fun ds ρ1 => if ds.length = fs.length then .ex ⟨c, (fs.zip ds).reverse⟩ ρ1 else .no
theorem zip_fst {fs : List Str} {ds : List D} (h : ds.length = fs.length) : ((fs.zip ds).reverse).map Prod.fst = fs.reverse := by
  rw [List.map_reverse]
  congr 1
  rw [List.map_fst_zip]
  omega
theorem zip_snd {fs : List Str} {ds : List D} (h : ds.length = fs.length) : ((fs.zip ds).reverse).map Prod.snd = ds.reverse := by
  rw [List.map_reverse]
  congr 1
  rw [List.map_snd_zip]
  omega
theorem zip_rev {fs : List Str} {vs : List V} (h : vs.length = fs.length) : fs.reverse.zip vs.reverse = (fs.zip vs).reverse := by
  induction fs generalizing vs with
  | nil => 
    cases vs with
    | nil => rfl
    | cons v vs => cases h
  | cons f fs ih =>
    cases vs with
    | nil => cases h
    | cons v vs =>
      have h' : vs.length = fs.length := Nat.succ.inj h
      rw [List.reverse_cons, List.reverse_cons, List.zip_append (by rw [List.length_reverse, List.length_reverse]; exact h'.symm), ih h', List.zip_cons_cons]
      show (fs.zip vs).reverse ++ [(f, v)] = ((f, v) :: fs.zip vs).reverse
      rw [List.reverse_cons]
section
variable {X : Cx} {ks : List Sh} {W : WX} {rsh : Sh} {fx : Nat} {e : Expr} {es : List Expr} {ta : TA} {ma : MA} {c : Str} {fs : List Str} {C : Addr} {p pos pos' p2 : Pos}
theorem sv_raise (Z : ExK X.prog X.w X.K X.mg X.base c fs C) (hc : X.calm = true) (tk : Takes X W) (hr : Room 2 X.A) (hfs : fs.length ≤ 1000) (ha : EA X ks W (e :: es) ta ma) (hg : Gl X c := by rfl) (hdb : (c == ("__debug__" : Str)) = false := by decide)
    (he : starEach (e :: es) X.env = (false, eval e X.env) :: starEach es X.env := by rfl) (hpl : (backTo pos (starEach es X.env)).any (·.1) = false := by rfl) :
    SV X ks W rsh fx (.Raise (some (.Call (.Name c p) (e :: es) [] pos)) none pos') (fun _ σ H => tMkO C (spI X.K C fs) [] ta σ H fun cls d H' => W cls d σ H') (mRaise c fs ma) := by
  obtain ⟨fI, fd, ps, iC, tI, F1, hb⟩ := Z.iC
  refine ⟨ps_raise hc tk (pmk_oex (k := 1) Z.ox iC tI F1 hr hb .nil pass0 hg Z.gC ha.pe hdb he hpl), fun ρ σ F H fp D r hok => ?_⟩
  unfold mRaise at hok
  refine ha.sd.go r (Ok := OkS (bd X ks W) rsh fx F H fp σ D) hok (fun z => z) (fun _ _ z => z.x) fun ds ρ1 vs F1 H1 fp1 h1 r1 x1 p1 => ?_
  by_cases hn : ds.length = fs.length
  · rw [if_pos hn] at h1
    have hv : vs.length = fs.length := p1.length.trans hn
    refine ⟨by omega, fun a na => ⟨a, vs ++ [], rfl, by rw [List.append_nil]; exact hv, upd_same, fun dx H' ndx ne e1 e2 e3 => ?_⟩⟩
    have nd1 : H1 dx = none := by rw [upd_ne ne] at ndx; exact ndx
    rw [List.append_nil] at e2
    refine ⟨rfl, dx, zipr fs vs, e1, e2, nd1, ?_⟩
    have eH : upd (del H' a) dx (.xd (zipr fs vs)) = upd H1 dx (.xd (zipr fs vs)) := by
      funext b
      by_cases hb : b = dx
      · rw [hb, upd_same, upd_same]
      · rw [upd_ne hb, upd_ne hb]
        by_cases hba : b = a
        · rw [hba, del_same, na]
        · rw [del_ne hba, e3 b hba hb, upd_ne hba]
    rw [eH]
    have al := upd_alc (o := .xd (zipr fs vs)) r1.sub nd1
    obtain ⟨r2, _, x2⟩ := al.rel (fv := []) r1 (fun _ m => by simp at m) List.nodup_nil
    rw [List.append_nil] at x2
    have h2 := h1 (.ref C) (some dx) σ _ _ fp1 r2 (x1.trans x2) rfl
    refine h2 ⟨C, Z.gC, rfl, .inr ⟨dx, vs.reverse, rfl, ?_, ?_⟩⟩
    · rw [upd_same, zip_fst hn, zip_rev hv]; rfl
    · rw [zip_snd hn]
      exact (p1.mono (al.same r1.sub)).reverse
  · rw [if_neg hn] at h1; exact (show False from h1).elim
theorem sv_raiseN {m : Str} {j : Nat} (Z : ExN X.K X.mg c C) (hc : X.calm = true) (tk : Takes X W) (hg : Gl X c := by rfl) (hdb : (c == ("__debug__" : Str)) = false := by decide) :
    SV X ks W rsh fx (.Raise (some (.Call (.Name c p) [.Constant (.str m) j p2] [] pos)) none pos') (fun _ σ H => W (.ref C) none σ H) (fun ρ => .ex ⟨c, []⟩ ρ) := by
  obtain ⟨B, newId, initId, bmB, FB, q⟩ := Z.ex
  refine ⟨ps_raise hc tk (pmk_own FB q Z.gC Z.kC (raises_own Z.bC Z.tC) hg hdb), fun ρ σ F H fp D r hok => ?_⟩
  exact hok (.ref C) none σ F H fp r .refl rfl ⟨C, Z.gC, rfl, .inl ⟨rfl, rfl⟩⟩
end

/-! ### isinstance(e, C), isinstance(e, (C, ..)), e.f in a suite -/
def IsAns (K : PySem.W.Frag) (H : Hp) (C : Addr) (xs : List V) (a : Addr) (b : Bool) : Prop :=
  (∃ c cv, xs = [.ref a, c] ∧ (∀ u, RelV c u → u = cv) ∧ PySem.W.kitOne K (.ref C) cv = some b) ∨ (∃ tp vs its, xs = [.ref a, .ref tp] ∧ TupF H tp vs ∧ (∀ us, Vals vs us → us = its) ∧ PySem.W.kitAny K (.ref C) its = some b)
def rIsX (K : PySem.W.Frag) (a : Addr) (cls : Value) (d : Option Addr) : List V → Hp → VK → Prop := fun xs H Q =>
  ∃ C, cls = .ref C ∧ ExcC K C ∧ (∀ dd, d = some dd → ∃ fs, H dd = some (.xd fs)) ∧ ∃ b, IsAns K H C xs a b ∧ Q (.bl b) H
theorem excC_cl {K : PySem.W.Frag} {C : Addr} (h : ExcC K C) : (PySem.W.clsIn K C).isSome = true := by
  obtain ⟨cd, hc, _⟩ := PySem.W.any_some h.hd
  rw [hc]; rfl
theorem call_isX {X : Cx} {a : Addr} {oe : Obj} {pn : List (Addr × Obj)} {cls : Value} {d : Option Addr} (hz : Zc cls d oe) (hf : ∃ vs, oe.data = .fields vs) : CallR (X.suite a ((a, oe) :: pn)) (.builtin "isinstance") (rIsX X.K a cls d) := by
  intro pins s σ H xs us Q I r h
  obtain ⟨C, rfl, E, hd, b, hans, q⟩ := h
  obtain ⟨hget, _⟩ := I.pin (a, oe) (List.mem_append.mpr (.inl List.mem_cons_self))
  obtain ⟨fv, hv⟩ := hf
  have J : ∃ od, PySem.W.InstAt s.heap a oe C od := by
    cases d with
    | none =>
      obtain ⟨oc, od, oda, osl⟩ := oe
      obtain ⟨h1, h2⟩ := hz
      dsimp only at h1 h2 hv
      subst h1 h2 hv
      exact ⟨none, hget, rfl, rfl, trivial⟩
    | some dd =>
      obtain ⟨fs, ed⟩ := hd dd rfl
      have hx : ObjOk X.prog X.w H s.heap dd (.xd fs) := I.hok dd _ ed
      obtain ⟨mA, hns, hr⟩ := hx
      obtain ⟨od, ho, hl⟩ := lookIn_ns hns
      exact ⟨some od, hget, hz.1, by unfold PySem.W.notCls; rw [hv] <;> rfl, by rw [hz.2]; exact ho⟩
  obtain ⟨od, J⟩ := J
  have KX := PySem.W.kitx_exc (K := X.K) (x := a) (ox := oe) (od := od) (excC_cl E) E.hg E.hk E.hs E.ha E.hn E.ht E.hm
  rcases hans with ⟨c, cv, rfl, hcv, e⟩ | ⟨tp, vs, its, rfl, ht, hv2, e⟩
  · cases r with
    | cons rx rr =>
      cases rr with
      | cons rt rr =>
        cases rr
        cases rx
        have ec := hcv _ rt
        subst ec
        exact PySem.W.kia_one KX I.kIn J e (fun z => nomatch z) fun tk => ⟨.bl b, H, I.kept (t' := tk) fun _ _ z => z, rfl, q⟩
  · cases r with
    | cons rx rr =>
      cases rr with
      | cons rt rr =>
        cases rr
        cases rx
        cases rt
        obtain ⟨its', r1, ⟨⟨tc, dd, data, sl⟩, ho, hc, n, hdt⟩, hs⟩ := I.tuple (ht.sq X.K)
        simp only at hc hdt
        subst hc hdt
        have ei := hv2 _ r1
        subst ei
        exact PySem.W.kia_tup KX I.kIn J ho e (fun z => nomatch z) fun tk => ⟨.bl b, H, I.kept (t' := tk) fun _ _ z => z, rfl, q⟩
/-- e is of class c: told by a table -/
def mIsE (i : Nat) (tbl : List (Str × Bool)) : ME := fun ρ => match own ρ i with
  | some (.ob c _) => (match tbl.lookup c with | some b => .ok (.bl b) ρ | none => .no)
  | _ => .no
def mFld (i : Nat) (c f : Str) : ME := fun ρ => match own ρ i with
  | some (.ob c' fs) => if c' = c then R.of (fs.lookup f) ρ else .no
  | _ => .no
theorem lookup_mem {α : Type} {c : Str} {b : α} : ∀ {l : List (Str × α)}, l.lookup c = some b → (c, b) ∈ l
  | (x, y) :: l, h => by
    rw [List.lookup_cons] at h
    by_cases e : c = x
    · subst e
      simp at h
      subst h
      exact List.mem_cons_self
    · have : (c == x) = false := by simpa using e
      rw [this] at h
      exact List.mem_cons_of_mem _ (lookup_mem h)
/-- what the exception's slot tells -/
theorem Rel.excE {K : PySem.W.Frag} {ks : List Sh} {F H : Hp} {ρ : DEnv} {σ : St} {fp : List Addr} {i : Nat} {mg : Str → Option Value} {a : Addr} {cls : Value} {d : Option Addr} {c : Str} {fs : List (Str × D)} (r : Rel K ks F H ρ σ fp) (hk : ks[i]? = some (.exc mg a cls d)) (e : own ρ i = some (.ob c fs)) :
    σ[i]? = some (some (.ref a)) ∧ ∃ C, mg c = some (.ref C) ∧ cls = .ref C ∧ (fs = [] ∧ d = none ∨ ∃ dd vs, d = some dd ∧ F dd = some (.xd ((fs.map Prod.fst).zip vs)) ∧ Reps K F vs (fs.map Prod.snd)) := by
  obtain ⟨v, f, g, s1, o1, _, _⟩ := r.sl.split hk (getE e)
  cases o1 with
  | exc e1 e2 => exact ⟨s1, _, e1, rfl, e2⟩
section
variable {X : Cx} {ks : List Sh} {W : WX} {i : Nat} {a : Addr} {cls : Value} {d : Option Addr} {oe : Obj} {pn : List (Addr × Obj)} {x : Str} {p p1 pos : Pos}
/-- the facts of an isinstance: of each class of the table its answer -/
def IsT (K : PySem.W.Frag) (mg : Str → Option Value) (ans : Addr → Bool → Prop) (tbl : List (Str × Bool)) : Prop := ∀ q ∈ tbl, ∃ C, mg q.1 = some (.ref C) ∧ ExcC K C ∧ ans C q.2
/-- the answer's readings, from a table's row -/
theorem isX_sd {b : Bd} {t : TA} {ans : Addr → Bool → Prop} {tbl : List (Str × Bool)} (hk : b.ks[i]? = some (.exc b.mg a cls d)) (facts : IsT b.K b.mg ans tbl)
    (ht : ∀ C k σ F H fp Q ρ, Rel b.K b.ks F H ρ σ fp → σ[i]? = some (some (.ref a)) → ans C k → (∀ xs F' H', (∀ x o, H x = some o → H' x = some o) → IsAns b.K H' C xs a k → Alc F H F' H' → Q xs H') → t σ H Q) : SndE b .leaf (tCB (rIsX b.K a cls d) t) (mIsE i tbl) := by
  intro ρ σ F H fp Q r hok
  unfold mIsE at hok
  cases e0 : own ρ i with
  | none => rw [e0] at hok; exact (show False from hok).elim
  | some dd =>
    rw [e0] at hok
    cases dd with
    | ob c fs =>
      dsimp only at hok
      cases e1 : tbl.lookup c with
      | none => rw [e1] at hok; exact (show False from hok).elim
      | some k =>
        rw [e1] at hok
        obtain ⟨s1, C, e2, ecls, hd⟩ := r.excE hk e0
        obtain ⟨C', e3, E, ak⟩ := facts _ (lookup_mem e1)
        have eC : C' = C := by
          have := e3.symm.trans e2
          cases this; rfl
        subst eC
        refine ht C' k σ F H fp _ ρ r s1 ak fun xs F' H' keep ia al => ?_
        refine ⟨C', ecls, E, fun d' ed => ?_, k, ia, ?_⟩
        · rcases hd with ⟨_, z⟩ | ⟨d2, vs, z, e4, _⟩
          · rw [z] at ed; cases ed
          · rw [z] at ed; cases ed
            exact ⟨_, keep _ _ (r.sub _ _ e4)⟩
        · obtain ⟨r2, nd2, x2⟩ := al.rel (fv := []) r (fun _ m => by simp at m) List.nodup_nil
          rw [List.append_nil] at x2
          exact hok (.bl k) F' H' fp [] r2 (by rw [List.append_nil]; exact r2.nd) (by rw [List.append_nil]; exact x2) (.leaf (.bl k))
    | _ => exact (show False from hok).elim
theorem ev_isX {e c : Expr} {vc : V} {cv : Value} (tbl : List (Str × Bool)) (hz : Zc cls d oe) (hf : ∃ vs, oe.data = .fields vs) (facts : IsT X.K X.mg (fun C b => PySem.W.kitOne X.K (.ref C) cv = some b) tbl)
    (he : PE (X.suite a ((a, oe) :: pn)) e (tVar i)) (hc : PE (X.suite a ((a, oe) :: pn)) c (tC vc)) (rel : ∀ u, RelV vc u → u = cv) (hm : X.mg "isinstance" = none) (hk : ks[i]? = some (.exc X.mg a cls d) := by rfl) (hg : Gl (X.suite a ((a, oe) :: pn)) "isinstance" := by rfl)
    (hv : bootBuiltins "isinstance" = some (.builtin "isinstance") := by decide +kernel)
    (h1 : starEach [e, c] X.env = (false, eval e X.env) :: starEach [c] X.env := by rfl) (h2 : starEach [c] X.env = (false, eval c X.env) :: starEach [] X.env := by rfl) (hpl : (backTo pos (starEach [c] X.env)).any (·.1) = false := by rfl) :
    EV (X.suite a ((a, oe) :: pn)) ks W (.Call (.Name "isinstance" p) [e, c] [] pos) .leaf (tCB (rIsX X.K a cls d) (tCons (tVar i) (tCons (tC vc) tNil))) (mIsE i tbl) :=
  ⟨pe_callB (call_isX hz hf) hg hm hv (pa_cons he (pa_cons hc pa_nil h2) h1) (by decide) (by decide) h1 hpl,
    isX_sd (b := bd (X.suite a ((a, oe) :: pn)) ks W) hk facts fun C k σ F H fp Q ρ r s1 ak h => ⟨_, s1, h _ F H (fun _ _ z => z) (.inl ⟨vc, cv, rfl, rel, ak⟩) (.refl r.sub)⟩⟩
/-- .. of a tuple of classes -/
def tCs : List V → TA
  | [] => tNil
  | v :: vs => tCons (tC v) (tCs vs)
theorem tCs_of {Q : List V → Hp → Prop} {σ : St} {H : Hp} : ∀ {vs : List V} {k : List V → List V}, Q (k vs) H → tCs vs σ H fun xs H1 => Q (k xs) H1
  | [], _, h => h
  | v :: vs, k, h => tCs_of (vs := vs) (k := fun xs => k (v :: xs)) h
theorem ev_isXT {e : Expr} {cs : List Expr} {vs : List V} {its : List Value} {tpos : Pos} {tx} (tbl : List (Str × Bool)) (hz : Zc cls d oe) (hf : ∃ vs, oe.data = .fields vs) (facts : IsT X.K X.mg (fun C b => PySem.W.kitAny X.K (.ref C) its = some b) tbl)
    (he : PE (X.suite a ((a, oe) :: pn)) e (tVar i)) (hc : PA (X.suite a ((a, oe) :: pn)) cs (tCs vs)) (lv : vs.length ≤ 1000) (rel : ∀ us, Vals vs us → us = its) (hm : X.mg "isinstance" = none) (hk : ks[i]? = some (.exc X.mg a cls d) := by rfl) (hg : Gl (X.suite a ((a, oe) :: pn)) "isinstance" := by rfl)
    (hv : bootBuiltins "isinstance" = some (.builtin "isinstance") := by decide +kernel)
    (h1 : starEach [e, .Tuple cs tx tpos] X.env = (false, eval e X.env) :: starEach [.Tuple cs tx tpos] X.env := by rfl) (h2 : starEach [.Tuple cs tx tpos] X.env = (false, eval (.Tuple cs tx tpos) X.env) :: starEach [] X.env := by rfl) (hpl : (backTo pos (starEach [.Tuple cs tx tpos] X.env)).any (·.1) = false := by rfl) :
    EV (X.suite a ((a, oe) :: pn)) ks W (.Call (.Name "isinstance" p) [e, .Tuple cs tx tpos] [] pos) .leaf (tCB (rIsX X.K a cls d) (tCons (tVar i) (tCons (tTupF (tCs vs)) tNil))) (mIsE i tbl) :=
  ⟨pe_callB (call_isX hz hf) hg hm hv (pa_cons he (pa_cons (pe_tupF hc) pa_nil h2) h1) (by decide) (by decide) h1 hpl,
    isX_sd (b := bd (X.suite a ((a, oe) :: pn)) ks W) hk facts fun C k σ F H fp Q ρ r s1 ak h => ⟨_, s1, by
      change tCs vs σ H fun xs H1 => xs.length ≤ sizeLine ∧ ∀ p us, H1 p = none → Q [.ref a, .ref p] (upd H1 p (tupC us xs))
      refine tCs_of (vs := vs) (k := fun xs => xs) (Q := fun xs H1 => xs.length ≤ sizeLine ∧ ∀ p us, H1 p = none → Q [.ref a, .ref p] (upd H1 p (tupC us xs))) ?_
      refine ⟨by rw [sizeLine_eq]; exact Nat.le_trans lv (by decide), fun tp us np => ?_⟩
      have al := upd_alc (o := tupC us vs) r.sub np
      exact h _ _ _ (fun x o z => (al.keep x o z).1) (.inr ⟨tp, vs, its, rfl, ⟨us, upd_same⟩, rel, ak⟩) al⟩⟩
/-- e.f -/
theorem ev_fldX {e : Expr} {C : Addr} {c f : Str} (hz : Zc cls d oe) (hf : ∃ vs, oe.data = .fields vs) (gC : X.mg c = some (.ref C)) (T : XfC X.K C) (no : PySem.W.findIn X.K (.ref C) f = some none) (he : PE (X.suite a ((a, oe) :: pn)) e (tVar i))
    (hk : ks[i]? = some (.exc X.mg a cls d) := by rfl) (hb : attributeBase e f X.env (eval e X.env) = eval e X.env := by rfl) :
    EV (X.suite a ((a, oe) :: pn)) ks W (.Attribute e f pos) .leaf (tXf a cls d C f (tVar i)) (mFld i c f) := by
  refine ⟨pe_xf T no hz hf he hb, fun ρ σ F H fp Q r hok => ?_⟩
  unfold mFld at hok
  cases e0 : own ρ i with
  | none => rw [e0] at hok; exact (show False from hok).elim
  | some dd =>
    rw [e0] at hok
    cases dd with
    | ob c' fs =>
      dsimp only at hok
      by_cases ec : c' = c
      · rw [if_pos ec] at hok
        subst ec
        obtain ⟨s1, C', e2, ecls, hd⟩ := r.excE hk e0
        have eC : C' = C := by
          have := e2.symm.trans gC
          cases this; rfl
        subst eC
        cases e1 : fs.lookup f with
        | none => rw [e1] at hok; exact (show False from hok).elim
        | some z =>
          rw [e1] at hok
          rcases hd with ⟨z', _⟩ | ⟨d2, vs, ed, e4, rp⟩
          · rw [z'] at e1; cases e1
          · have key : ∀ {fs : List (Str × D)} {vs : List V}, Reps X.K F vs (fs.map Prod.snd) → fs.lookup f = some z → ∃ v, ((fs.map Prod.fst).zip vs).lookup f = some v ∧ Rep X.K F v z := by
              intro fs
              induction fs with
              | nil => intro vs _ h; cases h
              | cons q fs ih =>
                intro vs rp h
                obtain ⟨g, y⟩ := q
                cases rp with
                | @cons v _ vs' _ ra rb =>
                  rw [List.lookup_cons] at h
                  rw [List.map_cons, List.zip_cons_cons, List.lookup_cons]
                  cases hb : (f == g) with
                  | true => rw [hb] at h; cases h; exact ⟨v, rfl, ra⟩
                  | false => rw [hb] at h; exact ih rb h
            obtain ⟨v, l1, rv⟩ := key rp e1
            exact ⟨_, s1, rfl, ecls, d2, _, v, ed, r.sub _ _ e4, l1, (OkE.done hok r).here r.sub rv⟩
      · rw [if_neg ec] at hok; exact (show False from hok).elim
    | _ => exact (show False from hok).elim
end

/-! ### try: .. except B as e: suite -/
def mTry (i : Nat) (caught : List Str) (mb ms : MS) : MS := fun ρ => match mb ρ with
  | .ok f ρ1 => .ok f ρ1
  | .ex e ρ1 => if caught.contains e.c then (match ms (ρ1.set i (some (.ob e.c e.fs))) with
      | .ok f ρ2 => .ok f (ρ2.set i none)
      | _ => .no) else .no
  | .no => .no
def tbU (X : Cx) (body : List Stmt) : WX → TS := fun W D σ H => ∀ (pn : List (Addr × Obj)) (xe : Value → Shared → Prop), Takes (X.tr pn xe) W → PassesOwn (model X.prog X.w) X.A X.env xe → ∃ t, PSs (X.tr pn xe) body t ∧ t D σ H
def tsU (X : Cx) (suite : List Stmt) : Addr → Value → Option Addr → TS := fun a cls d D σ H => ∀ (oe : Obj) (pn : List (Addr × Obj)), Zc cls d oe → (∃ vs, oe.data = .fields vs) → ∃ t, PSs (X.suite a ((a, oe) :: pn)) suite t ∧ t D σ H
section
variable {X : Cx} {ks : List Sh} {W : WX} {rsh : Sh} {fx : Nat} {x n : Str} {c : Value} {i : Nat} {body suite : List Stmt} {b₀ : Stmt} {np pos pos' : Pos} {mb ms : MS}
theorem sv_try (i : Nat) (caught : List Str) (hs : X.stack = X.env :: X.outer) (hf : X.env.frame = some X.env.locals) (hN : X.N.Nodup) (hc : Names X x c) (tk : Takes X W) (hcat : ∀ q ∈ caught, ∃ C, X.mg q = some (.ref C) ∧ PySem.W.exmOne X.K (.ref C) c = some true)
    (hb : ∀ (W' : WX) (pn : List (Addr × Obj)) (xe : Value → Shared → Prop), Takes (X.tr pn xe) W' → PassesOwn (model X.prog X.w) X.A X.env xe → ∃ t, SVs (X.tr pn xe) ks W' rsh fx body t mb)
    (hsu : ∀ (a : Addr) (oe : Obj) (cls : Value) (d : Option Addr) (pn : List (Addr × Obj)), Zc cls d oe → (∃ vs, oe.data = .fields vs) → ∃ t, SVs (X.suite a ((a, oe) :: pn)) (ks.set i (.exc X.mg a cls d)) W0 rsh fx (b₀ :: suite) t ms)
    (hi : X.N[i]? = some n := by rfl) (hln : X.env.kindOf n = some .local := by rfl) (hk : ks[i]? = some .leaf := by rfl) (hfx : fx ≤ i := by decide) :
    SV X ks W rsh fx (.Try body [.ExceptHandler (some (.Name x np)) (some n) (b₀ :: suite) pos'] [] [] pos) (fun D σ H => tbU X body (wAs X.K c i (tsU X (b₀ :: suite)) W D) D σ H) (mTry i caught mb ms) := by
  have hbP : ∀ (W' : WX) (pn : List (Addr × Obj)) (xe : Value → Shared → Prop), Takes (X.tr pn xe) W' → PassesOwn (model X.prog X.w) X.A X.env xe → PSs (X.tr pn xe) body (tbU X body W') := fun W' pn xe t1 p1 => ⟨fun pins s σ H D I h => by
    obtain ⟨t, h1, h2⟩ := h pn xe t1 p1
    exact h1.run pins s σ H D I h2⟩
  have hsP : ∀ (a : Addr) (oe : Obj) (cls : Value) (d : Option Addr) (pn : List (Addr × Obj)), Zc cls d oe → (∃ vs, oe.data = .fields vs) → PSs (X.suite a ((a, oe) :: pn)) (b₀ :: suite) (tsU X (b₀ :: suite) a cls d) := fun a oe cls d pn z1 z2 => ⟨fun pins s σ H D I h => by
    obtain ⟨t, h1, h2⟩ := h oe pn z1 z2
    exact h1.run pins s σ H D I h2⟩
  refine ⟨ps_try_as hs hf hN hi hln hc tk hbP hsP, fun ρ σ F H fp D r hok => ?_⟩
  intro pn xe t1 p1
  obtain ⟨t, hsv⟩ := hb _ pn xe t1 p1
  refine ⟨t, hsv.pe, hsv.sd ρ σ F H fp D r ?_⟩
  unfold mTry at hok
  cases em : mb ρ with
  | no => rw [em] at hok; exact (show False from hok).elim
  | ok f ρ1 =>
    rw [em] at hok
    cases f with
    | nx => exact hok
    | rt d => exact hok
  | ex e ρ1 =>
    rw [em] at hok
    dsimp only at hok
    intro cls dx σ' F' H' fp' r' x' q' ex
    cases hct : caught.contains e.c with
    | false => rw [hct, if_neg Bool.false_ne_true] at hok; exact (show False from hok).elim
    | true =>
      rw [hct, if_pos rfl] at hok
      obtain ⟨C, e1, e2⟩ := hcat e.c (List.contains_iff_mem.mp hct)
      obtain ⟨C', g1, g2, g3⟩ := ex
      have eC : C' = C := by
        have := g1.symm.trans e1
        cases this; rfl
      subst eC
      subst g2
      refine ⟨true, e2, fun _ a na => ?_, fun z => by cases z⟩
      intro oe pn2 z1 z2
      obtain ⟨t2, hsv2⟩ := hsu a oe (.ref C') dx pn2 z1 z2
      refine ⟨t2, hsv2.pe, ?_⟩
      -- the state in the suite
      obtain ⟨g, rw1, sb⟩ := r'.resh i (.exc X.mg a (.ref C') dx)
      have hlen := r'.sl.lens
      have hil : i < ks.length := (List.getElem?_eq_some_iff.mp hk).1
      have sv1 := rw1.sl.setV i (some (.ref a))
      obtain ⟨gp, sl2, pm⟩ := RelL.join (s := .exc X.mg a (.ref C') dx) (f := []) (d := .ob e.c e.fs) (OR.exc g1 g3) sv1 (by rw [List.getElem?_set_self hil]) (by rw [List.getElem?_set_self (by rw [← hlen.2, ← hlen.1]; exact hil)])
      rw [List.nil_append] at pm
      have r2 : Rel X.K (ks.set i (.exc X.mg a (.ref C') dx)) F' H' (ρ1.set i (some (.ob e.c e.fs))) (σ'.set i (some (.ref a))) gp := ⟨r'.sub, pm.nodup_iff.mpr rw1.nd, sl2⟩
      have x2 : Ext F H fp F' H' gp := x'.sub fun y m => sb.subset (pm.subset m)
      refine hsv2.sd (ρ1.set i (some (.ob e.c e.fs))) (σ'.set i (some (.ref a))) F' H' gp _ r2 ?_
      cases es : ms (ρ1.set i (some (.ob e.c e.fs))) with
      | no => rw [es] at hok; exact (show False from hok).elim
      | ex y ρ2 => rw [es] at hok; exact (show False from hok).elim
      | ok f ρ2 =>
        rw [es] at hok
        have back : ∀ {F2 H2 : Hp} {σ2 : St} {fp2 : List Addr} (fv : List Addr), Rel X.K (ks.set i (.exc X.mg a (.ref C') dx)) F2 H2 ρ2 σ2 fp2 → (fp2 ++ fv).Nodup → Ext F' H' gp F2 H2 (fp2 ++ fv) → ∃ g2, Rel X.K ks F2 H2 (ρ2.set i none) σ2 g2 ∧ Rel X.K ks F2 H2 (ρ2.set i none) (σ2.set i none) g2 ∧ (g2 ++ fv).Nodup ∧ Ext F H fp F2 H2 (g2 ++ fv) := fun {F2 H2 σ2 fp2} fv r3 nd3 x3 => by
          obtain ⟨g2, r4, sb2⟩ := r3.resh i .leaf
          have ek : (ks.set i (.exc X.mg a (.ref C') dx)).set i .leaf = ks := by
            rw [List.set_set]
            refine List.ext_getElem? fun j => ?_
            by_cases ej : i = j
            · subst ej
              rw [List.getElem?_set_self hil]; exact hk.symm
            · rw [List.getElem?_set_ne ej]
          rw [ek] at r4
          refine ⟨g2, r4, ⟨r4.sub, r4.nd, r4.sl.setV i none⟩, nd3.sublist (List.Sublist.append sb2 (.refl _)), (x2.trans x3).sub fun y m => ?_⟩
          rcases List.mem_append.mp m with m | m
          · exact List.mem_append_left _ (sb2.subset m)
          · exact List.mem_append_right _ m
        cases f with
        | nx =>
          intro σ2 F2 H2 fp2 r3 x3 q3
          obtain ⟨g2, _, r5, nd5, x5⟩ := back [] r3 (by rw [List.append_nil]; exact r3.nd) (by rw [List.append_nil]; exact x3)
          rw [List.append_nil] at x5
          refine hok (σ2.set i none) F2 H2 g2 r5 x5 ?_
          rw [take_set hfx, q3, take_set hfx, q']
        | rt dv =>
          intro v σ2 F2 H2 fp2 fv r3 nd3 x3 q3 o3
          obtain ⟨g2, r5, _, nd5, x5⟩ := back fv r3 nd3 x3
          refine hok v σ2 F2 H2 g2 fv r5 nd5 x5 ?_ o3
          rw [q3, take_set hfx, q']
end

/-! ### a def that may raise, where it is called so that it does not -/
theorem FnG.noex {P : Program} {w : World} {K : PySem.W.Frag} {mg : Str → Option Value} {base : Heap} {k n fx : Nat} {f : Addr} {fd : FuncData} {ps : List Str} {psh : List Sh} {rsh : Sh} {g : List D → R D}
    (G : FnG P w K mg base (L2.CX P w) k f fd ps (spV K mg n psh fx rsh g)) : FnG P w K mg base CX0 k f fd ps (spV K mg n psh fx rsh fun ds => (g ds).noEx) := by
  refine ⟨fun vs H Q E h => ?_, fun A outer s H args us vs Q E hr hgd e0 hb r hsp => ?_⟩
  · obtain ⟨h1, F, fp, ds, r, ok⟩ := h
    refine G.len vs H Q E ⟨h1, F, fp, ds, r, ?_⟩
    dsimp only at ok
    cases e : g ds with
    | no => rw [e] at ok; exact ok
    | ok d ρ => rw [e] at ok; exact ok
    | ex y ρ => rw [e] at ok; exact (show False from ok).elim
  · have hsp' : spV K mg n psh fx rsh g vs H Q (fun _ _ _ => False) := by
      obtain ⟨h1, F, fp, ds, r, ok⟩ := hsp
      refine ⟨h1, F, fp, ds, r, ?_⟩
      dsimp only at ok
      cases e : g ds with
      | no => rw [e] at ok; exact ok
      | ok d ρ => rw [e] at ok; exact ok
      | ex y ρ => rw [e] at ok; exact (show False from ok).elim
    refine codeAny_mono (G.run A outer s H args us vs Q (fun _ _ _ => False) hr hgd e0 hb r hsp') fun rr s' hq => ?_
    cases rr with
    | error e =>
      obtain ⟨_, _, _, _, _, _, _, _, _, _, _, _, z⟩ := hq
      exact z.elim
    | ok fl =>
      cases fl with
      | ret u => exact hq
      | next => exact hq
      | brk => exact hq
      | cont => exact hq
theorem Clp.noex {P : Program} {w : World} {K : PySem.W.Frag} {mg : Str → Option Value} {base : Heap} {k n fx : Nat} {x : Str} {psh : List Sh} {rsh : Sh} {g : List D → R D} (c : Clp P w K mg base (L2.CX P w) k x n psh fx rsh g) :
    Clp P w K mg base CX0 k x n psh fx rsh fun ds => (g ds).noEx := by
  obtain ⟨f, fd, ps, G, hm, hk, hb⟩ := c.ex
  exact ⟨f, fd, ps, G.noex, hm, hk, hb⟩
/-- .. called where it does not let anything out of it -/
theorem noEx_ok {α : Type} {r : R α} {a : α} {ρ : DEnv} (h : r.noEx = .ok a ρ) : r = .ok a ρ := by
  cases r with
  | ok b ρ' => exact h
  | ex e ρ' => cases h
  | no => cases h
end VL
/-! V37: defs with a try, defs that raise; facts of classes in tables. -/
namespace VL
open PySem PySem.Spec L2
def clsBody : Stmt → List Stmt
  | .ClassDef _ _ _ b _ _ _ _ _ _ _ => b
  | _ => []
def clsStm (s : Stmt) (i : Nat) : Stmt := (clsBody s).getD i (.Pass ⟨0, 0, 0, 0⟩)
section
variable {P : Program} {w : World} {K : PySem.W.Frag} {mg : Str → Option Value} {base : Heap}
/-- as Fun.okG, the frame's place among the callers' told -/
theorem Fun.okGT {x qual : Str} {st : Stmt} {f : Addr} {fd : FuncData} {N ps : List Str} {k n : Nat} {psh lsh : List Sh} {fx : Nat} {rsh : Sh} {m : MS} (G : L2.Fun K x qual st f fd) (S : FnScope N ps (defScope st)) (hp : ps.length = n) (hn : psh.length = n) (hN : N.length = n + lsh.length) (hfx : fx ≤ n) (hnx : rsh = .leaf ∨ ∀ ρ ρ', m ρ ≠ .ok .nx ρ')
    (body : ∀ X : Cx, X.prog = P → X.w = w → X.K = K → X.mg = mg → X.base = base → X.N = N → X.calm = true → X.xe = (fun _ _ => False) → X.fn = (fun _ => true) → (∃ L f cd, X.env = PyProof.Rows.envOfC qual (defScope st) L f cd) → Room k X.A → X.A.guards = some [] → X.stack = X.env :: X.outer →
      ∃ t, SVs X (psh ++ lsh) W0 rsh fx (defBody st) t m) : FnG P w K mg base CX0 (k + 1) f fd ps (spV K mg n psh fx rsh fun ds => (runF (n + lsh.length) fx m ds).noEx) := by
  obtain ⟨oc, od, kV, doc, pm, an, cdv, ct, osl, rfl, lk, hcd⟩ := G.ex
  refine fng_of lk hcd S (fun vs H Q E h => h.1.trans hp.symm) fun A outer s H vs Q E hr hgd hsp => ?_
  obtain ⟨t, ht⟩ := body (cxOf CX0 P w K mg base N qual (defScope st) f cdv A outer s H E).nox rfl rfl rfl rfl rfl rfl rfl rfl rfl ⟨_, _, _, rfl⟩ hr hgd rfl
  refine ⟨t, ht.pe.nox, body_ok (E := fun _ _ _ => False) ht hn hN hfx hnx (fun _ _ _ _ z => z) ?_⟩
  obtain ⟨h1, F, fp, ds, r, ok⟩ := hsp
  refine ⟨h1, F, fp, ds, r, ?_⟩
  dsimp only at ok
  cases e : runF (n + lsh.length) fx m ds with
  | no => rw [e] at ok; exact ok
  | ok d ρ' => rw [e] at ok; exact ok
  | ex y ρ' => rw [e] at ok; exact (show False from ok).elim
/-- as Fun.okXG -/
theorem Fun.okXGT {x qual : Str} {st : Stmt} {f : Addr} {fd : FuncData} {N ps : List Str} {k n : Nat} {psh lsh : List Sh} {fx : Nat} {rsh : Sh} {m : MS} (G : L2.Fun K x qual st f fd) (S : FnScope N ps (defScope st)) (hp : ps.length = n) (hn : psh.length = n) (hN : N.length = n + lsh.length) (hfx : fx ≤ n) (hnx : rsh = .leaf ∨ ∀ ρ ρ', m ρ ≠ .ok .nx ρ')
    (body : ∀ (X : Cx) (W : WX), X.prog = P → X.w = w → X.K = K → X.mg = mg → X.base = base → X.N = N → X.calm = true → X.fn = (fun _ => true) → (∃ L f cd, X.env = PyProof.Rows.envOfC qual (defScope st) L f cd) → Room k X.A → X.A.guards = some [] → X.stack = X.env :: X.outer → Takes X W → PassesOwn (model X.prog X.w) X.A X.env X.xe →
      ∃ t, SVs X (psh ++ lsh) W rsh fx (defBody st) t m) : FnG P w K mg base (L2.CX P w) (k + 1) f fd ps (spV K mg n psh fx rsh (runF (n + lsh.length) fx m)) := by
  obtain ⟨oc, od, kV, doc, pm, an, cdv, ct, osl, rfl, lk, hcd⟩ := G.ex
  refine fng_of lk hcd S (fun vs H Q E h => h.1.trans hp.symm) fun A outer s H vs Q E hr hgd hsp => ?_
  obtain ⟨t, ht⟩ := body (cxOf (L2.CX P w) P w K mg base N qual (defScope st) f cdv A outer s H E) (fun cls d _ H' => E cls d H') rfl rfl rfl rfl rfl rfl rfl rfl ⟨_, _, _, rfl⟩ hr hgd rfl (takes_of rfl rfl rfl rfl) (passes_of rfl)
  exact ⟨t, ht.pe, body_ok ht hn hN hfx hnx (fun _ _ _ _ z => z) hsp⟩
end
theorem ist_nil {K : PySem.W.Frag} {mg : Str → Option Value} {ans : Addr → Bool → Prop} : IsT K mg ans [] := fun _ h => by cases h
theorem ist_cons {K : PySem.W.Frag} {mg : Str → Option Value} {ans : Addr → Bool → Prop} {c : Str} {C : Addr} {b : Bool} {l : List (Str × Bool)} (g : mg c = some (.ref C)) (E : ExcC K C) (a : ans C b) (h : IsT K mg ans l) : IsT K mg ans ((c, b) :: l) := fun q m => by
  rcases List.mem_cons.mp m with rfl | m
  · exact ⟨C, g, E, a⟩
  · exact h q m
theorem kany_nil {K : PySem.W.Frag} {t : Value} : PySem.W.kitAny K t [] = some false := rfl
theorem kany_f {K : PySem.W.Frag} {t c : Value} {l : List Value} {b : Bool} (h : PySem.W.kitOne K t c = some false) (k : PySem.W.kitAny K t l = some b) : PySem.W.kitAny K t (c :: l) = some b := by
  unfold PySem.W.kitAny
  rw [h]; exact k
theorem kany_t {K : PySem.W.Frag} {t c : Value} {l : List Value} (h : PySem.W.kitOne K t c = some true) : PySem.W.kitAny K t (c :: l) = some true := by
  unfold PySem.W.kitAny
  rw [h]
/-- the classes that a clause takes -/
def CatT (K : PySem.W.Frag) (mg : Str → Option Value) (c : Value) (l : List Str) : Prop := ∀ q ∈ l, ∃ C, mg q = some (.ref C) ∧ PySem.W.exmOne K (.ref C) c = some true
theorem cat_nil {K : PySem.W.Frag} {mg : Str → Option Value} {c : Value} : CatT K mg c [] := fun _ h => by cases h
theorem cat_cons {K : PySem.W.Frag} {mg : Str → Option Value} {c : Value} {q : Str} {C : Addr} {l : List Str} (g : mg q = some (.ref C)) (e : PySem.W.exmOne K (.ref C) c = some true) (h : CatT K mg c l) : CatT K mg c (q :: l) := fun y m => by
  rcases List.mem_cons.mp m with rfl | m
  · exact ⟨C, g, e⟩
  · exact h y m
theorem rel_ref {C : Addr} : ∀ u, RelV (.ref C) u → u = .ref C := fun _ h => h
theorem rel_ty {n : String} : ∀ u, RelV (.ty n) u → u = .type n := fun _ h => h
theorem rels_nil : ∀ us, Vals [] us → us = [] := fun us h => by cases h; rfl
theorem rels_cons {v : V} {u : Value} {vs : List V} {its : List Value} (h : ∀ u', RelV v u' → u' = u) (k : ∀ us, Vals vs us → us = its) : ∀ us, Vals (v :: vs) us → us = u :: its := fun us r => by
  cases r with
  | cons a b => rw [h _ a, k _ b]
/-- the facts of a class with fields, from what the written part says -/
theorem exK_of {P : Program} {w : World} {K : PySem.W.Frag} {mg : Str → Option Value} {base : Heap} {c : Str} {fs : List Str} {C fI : Addr} {fd : FuncData} {ps : List Str} (gC : mg c = some (.ref C)) (ox : OexC K C) (iC : PySem.W.findIn K (.ref C) "__init__" = some (some (.ref fI))) (tI : PySem.W.typeIn K (.ref fI) = some (.type "function"))
    (F : FnOk P w K mg base CX0 1 fI fd ps (spI K C fs)) (b : Binds K fd ps []) : ExK P w K mg base c fs C := ⟨gC, ox, fI, fd, ps, iC, tI, F, b⟩
end VL
/-! V38: sorted lists of pairs of texts. -/
namespace VL
open PySem PySem.Spec L2
abbrev SP := Str × Str
/-- the order of pairs -/
def ltPr (p q : SP) : Bool := if p.1 = q.1 then decide (p.2.cps.toList < q.2.cps.toList) else decide (p.1.cps.toList < q.1.cps.toList)
def lePr (p q : SP) : Bool := !ltPr q p
theorem str_ext {x y : Str} (h : x.cps.toList = y.cps.toList) : x = y := by
  obtain ⟨⟨x⟩⟩ := x
  obtain ⟨⟨y⟩⟩ := y
  exact congrArg (fun l => (⟨⟨l⟩⟩ : Str)) h
theorem lt_tri {x y : Str} (h1 : ¬ x.cps.toList < y.cps.toList) (h2 : ¬ y.cps.toList < x.cps.toList) : x = y := str_ext (List.le_antisymm h2 h1)
theorem ltPr_irr (p : SP) : ltPr p p = false := by
  unfold ltPr
  rw [if_pos rfl, decide_eq_false (List.lt_irrefl _)]
theorem ltPr_trans {p q r : SP} (h1 : ltPr p q = true) (h2 : ltPr q r = true) : ltPr p r = true := by
  unfold ltPr at *
  by_cases a : p.1 = q.1
  · rw [if_pos a, decide_eq_true_iff] at h1
    by_cases b : q.1 = r.1
    · rw [if_pos b, decide_eq_true_iff] at h2
      rw [if_pos (a.trans b), decide_eq_true_iff]
      exact List.lt_trans h1 h2
    · rw [if_neg b, decide_eq_true_iff] at h2
      rw [if_neg (fun e => b (a.symm.trans e)), decide_eq_true_iff, a]
      exact h2
  · rw [if_neg a, decide_eq_true_iff] at h1
    by_cases b : q.1 = r.1
    · rw [if_neg (fun e => a (e.trans b.symm)), decide_eq_true_iff, ← b]
      exact h1
    · rw [if_neg b, decide_eq_true_iff] at h2
      have h3 := List.lt_trans h1 h2
      rw [if_neg (fun e => by rw [e] at h3; exact List.lt_irrefl _ h3), decide_eq_true_iff]
      exact h3
theorem ltPr_tri {p q : SP} (h1 : ltPr p q = false) (h2 : ltPr q p = false) : p = q := by
  unfold ltPr at *
  by_cases a : p.1 = q.1
  · rw [if_pos a, decide_eq_false_iff_not] at h1
    rw [if_pos a.symm, decide_eq_false_iff_not] at h2
    exact Prod.ext a (lt_tri h1 h2)
  · rw [if_neg a, decide_eq_false_iff_not] at h1
    rw [if_neg (Ne.symm a), decide_eq_false_iff_not] at h2
    exact absurd (lt_tri h1 h2) a
theorem lePr_trans (p q r : SP) (h1 : lePr p q = true) (h2 : lePr q r = true) : lePr p r = true := by
  unfold lePr at *
  rw [Bool.not_eq_true'] at *
  cases e : ltPr r p with
  | false => rfl
  | true =>
    exfalso
    cases a : ltPr p q with
    | true => rw [ltPr_trans e a] at h2; cases h2
    | false =>
      have := ltPr_tri a h1
      subst this
      rw [e] at h2; cases h2
theorem lePr_total (p q : SP) : (lePr p q || lePr q p) = true := by
  unfold lePr
  cases a : ltPr p q with
  | false => rw [Bool.not_false, Bool.or_true]
  | true =>
    cases b : ltPr q p with
    | false => rfl
    | true =>
      have := ltPr_trans a b
      rw [ltPr_irr] at this; cases this
def sortPr (l : List SP) : List SP := l.mergeSort lePr
theorem sortPr_perm (l : List SP) : (sortPr l).Perm l := List.mergeSort_perm l lePr
theorem sortPr_pw (l : List SP) : (sortPr l).Pairwise fun p q => lePr p q = true := List.pairwise_mergeSort lePr_trans lePr_total l
theorem sortPr_uniq {l m : List SP} (p : m.Perm l) (h : m.Pairwise fun p q => lePr p q = true) : m = sortPr l := by
  refine List.Perm.eq_of_pairwise (le := fun p q => lePr p q = true) (fun a b _ _ h1 h2 => ?_) h (sortPr_pw l) (p.trans (sortPr_perm l).symm)
  unfold lePr at h1 h2
  rw [Bool.not_eq_true'] at h1 h2
  exact ltPr_tri h2 h1

/-! ### the pair a value bears, read off the heap -/
def prOf : List Value → SP
  | [.str x _, .str y _] => (x, y)
  | _ => (⟨#[]⟩, ⟨#[]⟩)
def prAt (h : Heap) : Value → SP
  | .ref a => (match h.get? a with
    | some o => (match o.data with
      | .seq xs _ => prOf xs.toList
      | _ => (⟨#[]⟩, ⟨#[]⟩))
    | none => (⟨#[]⟩, ⟨#[]⟩))
  | _ => (⟨#[]⟩, ⟨#[]⟩)
def PrIn (h : Heap) (v : Value) (p : SP) : Prop := ∃ a t u, v = .ref a ∧ PyProof.Rows.IsTup h a #[.str p.1 t, .str p.2 u]
theorem PrIn.tx {h : Heap} {v : Value} {p : SP} (x : PrIn h v p) : prAt h v = p := by
  obtain ⟨a, t, u, rfl, o, ho, hc, n, hd⟩ := x
  show (match h.get? a with | some o => _ | none => _) = p
  rw [ho]
  show (match o.data with | .seq xs _ => _ | _ => _) = p
  rw [hd]
  rfl
theorem PrIn.keeps {h h' : Heap} {v : Value} {p : SP} (x : PrIn h v p) (k : ∀ b o, h.get? b = some o → o.cls = .type "tuple" → h'.get? b = some o) : PrIn h' v p := by
  obtain ⟨a, t, u, e, o, ho, hc, r⟩ := x
  exact ⟨a, t, u, e, o, k _ _ ho hc, hc, r⟩
/-- a value's rank among others: how many are less -/
def rkPr (h : Heap) (vs : List Value) (v : Value) : Int := ((vs.countP fun u => ltPr (prAt h u) (prAt h v) : Nat) : Int)
theorem countP_lt {α : Type} {f g : α → Bool} : ∀ {l : List α}, (∀ x ∈ l, f x = true → g x = true) → (∃ x ∈ l, f x = false ∧ g x = true) → l.countP f < l.countP g
  | [], _, ⟨x, m, _⟩ => by cases m
  | a :: l, h, ⟨x, m, h1, h2⟩ => by
    have le : l.countP f ≤ l.countP g := List.countP_mono_left fun y my => h y (List.mem_cons_of_mem _ my)
    rw [List.countP_cons, List.countP_cons]
    by_cases e : a = x
    · subst e
      rw [h1, h2]
      simp only [Bool.false_eq_true, if_false, if_true]
      omega
    · have mx : x ∈ l := by
        rcases List.mem_cons.mp m with q | q
        · exact absurd q.symm e
        · exact q
      have ih := countP_lt (l := l) (fun y my => h y (List.mem_cons_of_mem _ my)) ⟨x, mx, h1, h2⟩
      cases ef : f a with
      | false =>
        simp only [Bool.false_eq_true, if_false]
        omega
      | true =>
        rw [h a List.mem_cons_self ef]
        simp only [if_true]
        omega
theorem rk_lt {h : Heap} {vs : List Value} {v u : Value} (hv : v ∈ vs) : decide (rkPr h vs v < rkPr h vs u) = ltPr (prAt h v) (prAt h u) := by
  unfold rkPr
  cases e : ltPr (prAt h v) (prAt h u) with
  | true =>
    refine decide_eq_true (Int.ofNat_lt.mpr (countP_lt (fun x _ hx => ltPr_trans hx e) ⟨v, hv, ltPr_irr _, e⟩))
  | false =>
    refine decide_eq_false (Int.not_lt.mpr (Int.ofNat_le.mpr (List.countP_mono_left fun x _ hx => ?_)))
    cases a : ltPr (prAt h x) (prAt h v) with
    | true => rfl
    | false =>
      exfalso
      cases b : ltPr (prAt h v) (prAt h x) with
      | true => rw [ltPr_trans b hx] at e; cases e
      | false =>
        have := ltPr_tri a b
        rw [this, e] at hx; cases hx
theorem rk_le {h : Heap} {vs : List Value} {v u : Value} (hu : u ∈ vs) (l : rkPr h vs v ≤ rkPr h vs u) : lePr (prAt h v) (prAt h u) = true := by
  have := rk_lt (h := h) (u := v) hu
  rw [decide_eq_false (Int.not_lt.mpr l)] at this
  unfold lePr
  rw [← this]; rfl
section
variable {prog : Program} {w : World} {A : Around} {E : Value → Shared → Prop} {s : Shared}
theorem firsts_pr {h : Heap} : ∀ vs : List Value, (∀ v ∈ vs, ∃ p, PrIn h v p) → ∃ fs : List Value, PySem.W.KatTups h vs fs ∧ fs.length = vs.length ∧ ∀ f ∈ fs, ∃ x t, f = Value.str x t
  | [], _ => ⟨[], PySem.W.KatTups.nil, rfl, fun f hf => by simp at hf⟩
  | v :: vs, x => by
    obtain ⟨fs, k, hl, hi⟩ := firsts_pr vs fun u hu => x u (List.mem_cons_of_mem _ hu)
    obtain ⟨p, a, t, u, rfl, o, ho, hc, n, hd⟩ := x v List.mem_cons_self
    refine ⟨.str p.1 t :: fs, PySem.W.KatTups.cons ho hc hd rfl k, by rw [List.length_cons, List.length_cons, hl], fun f hf => ?_⟩
    rcases List.mem_cons.mp hf with e | hf
    · exact ⟨p.1, t, e⟩
    · exact hi f hf
theorem kind_prs {vs : List Value} (h2 : 2 ≤ vs.length) (x : ∀ v ∈ vs, ∃ p, PrIn s.heap v p) (r : Value → Int) (hr : ∀ v ∈ vs, ∀ u ∈ vs, decide (r v < r u) = ltPr (prAt s.heap v) (prAt s.heap u)) (Q : PyProof.Rows.SortKind → Shared → Prop)
    (h : ∀ κ, TS.Cmp prog w A s κ (PyProof.Rows.pairsOf vs) r → Q κ s) : wpAny (model prog w) A (PyProof.Rows.keyKind' vs.toArray) Q E s := by
  obtain ⟨fs, k, hl, hi⟩ := firsts_pr vs x
  have hb : (Value.type "str" != Value.type "tuple") = true := by first | rfl | decide | simp
  have hcmp : TS.Cmp prog w A s (PyProof.Rows.tuples' (Value.type "str" != Value.type "tuple")) (PyProof.Rows.pairsOf vs) r := by
    rw [hb]
    intro p q hp hq Q' E' hQ
    rw [PyProof.Rows.pairsOf_toList] at hp hq
    have mp := (PyProof.Rows.mem_zip_self hp).2
    have mq := (PyProof.Rows.mem_zip_self hq).2
    have hrr := hr _ mp _ mq
    obtain ⟨y, py⟩ := x _ mp
    obtain ⟨z, pz⟩ := x _ mq
    rw [py.tx, pz.tx] at hrr
    rw [hrr] at hQ
    obtain ⟨a, t1, t2, e1, o, ho, hc, n, hd⟩ := py
    obtain ⟨a', u1, u2, e2, o', ho', hc', n', hd'⟩ := pz
    rw [e1, e2]
    refine PySem.W.kat_lt ho hd ho' hd' ?_
    show PySem.W.KatLex prog w A true false Q' [(Value.str y.1 t1, Value.str z.1 u1), (Value.str y.2 t2, Value.str z.2 u2)] 0 s
    refine PySem.W.kat_cons (wpAny_eqBool_str ?_)
    refine PySem.W.kat_go (fun e0 => ?_) (fun e0 => ?_)
    · have e0' : y.1 = z.1 := of_decide_eq_true e0
      have hQ2 : Q' (decide (y.2.cps.toList < z.2.cps.toList)) s := by
        unfold ltPr at hQ
        rw [if_pos e0'] at hQ
        exact hQ
      refine PySem.W.kat_yes (PySem.W.kat_cons (wpAny_eqBool_str ?_))
      refine PySem.W.kat_go (fun e3 => ?_) (fun e3 => ?_)
      · have e3' : y.2 = z.2 := of_decide_eq_true e3
        have hQ3 : Q' false s := by
          rw [e3', decide_eq_false (List.lt_irrefl _)] at hQ2
          exact hQ2
        exact PySem.W.kat_yes (PySem.W.kat_nil hQ3)
      · exact PySem.W.kat_no (PySem.W.kat_one _ _ (PyProof.Rows.lt_str hQ2))
    · have e0' : ¬ y.1 = z.1 := of_decide_eq_false e0
      have hQ2 : Q' (decide (y.1.cps.toList < z.1.cps.toList)) s := by
        unfold ltPr at hQ
        rw [if_neg e0'] at hQ
        exact hQ
      exact PySem.W.kat_no (PyProof.Rows.oneLt_str hQ2)
  refine PySem.W.kat_kind (T := Value.type "str") k (by omega) (fun f hf => ?_) rfl (h _ hcmp)
  obtain ⟨x, t, rfl⟩ := hi f hf
  exact PySem.W.Looks.of_pure rfl
/-- list.sort of such a list -/
theorem sort_prs {a : Addr} {vs : List Value} {n : Nat} {Pf : PySem.Fin → Shared → Prop} (ho : s.heap.get? a = some (PyProof.Rows.seqObj "list" vs.toArray n)) (h64 : vs.length < 64) (x : ∀ v ∈ vs, ∃ p, PrIn s.heap v p)
    (h : ∀ out : Array Value, out.toList.Perm vs → out.toList.Pairwise (fun u v => rkPr s.heap vs u ≤ rkPr s.heap vs v) → Pf (.done (.ret .none)) { s with heap := PyProof.Rows.sortedHeap s.heap a vs out }) :
    wpAny (model prog w) A (Builtin.«list.sort» ⟨[.ref a], []⟩) Pf E s := by
  have stays : ∀ b o, s.heap.get? b = some o → o.cls = .type "tuple" → (TS.midHeap s.heap a vs).get? b = some o := fun b o e hc => by
    refine TS.midHeap_old (fun z => ?_) e
    subst z
    have e' := Option.some.inj (ho.symm.trans e)
    rw [← e'] at hc
    have c2 := Value.type.inj (show Value.type "list" = Value.type "tuple" from hc)
    exact absurd c2 (by decide)
  refine SK.plain_sort (r := rkPr s.heap vs) ho h64 (fun h2 Q hQ => ?_) fun ps out h1 h2 h3 => ?_
  · refine kind_prs (s := { s with heap := TS.midHeap s.heap a vs }) h2 (fun v hv => ?_) _ (fun v hv u hu => ?_) Q hQ
    · obtain ⟨p, hp⟩ := x v hv
      exact ⟨p, hp.keeps stays⟩
    · obtain ⟨p, hp⟩ := x v hv
      obtain ⟨q, hq⟩ := x u hu
      rw [rk_lt hv, hp.tx, hq.tx, (hp.keeps stays).tx, (hq.keeps stays).tx]
  · obtain ⟨p, o⟩ := TS.out_rank h1 h2 h3
    exact h out p o
open PyProof.Rows in
/-- sorted(..) of it -/
theorem sorted_prs {l : Addr} {vs : List Value} {Q : Value → Shared → Prop} (hl : s.heap.IsList l vs.toArray) (h64 : vs.length < 64) (x : ∀ v ∈ vs, ∃ p, PrIn s.heap v p)
    (h : ∀ out : Array Value, out.toList.Perm vs → out.toList.Pairwise (fun u v => lePr (prAt s.heap u) (prAt s.heap v) = true) → Q (.ref (s.heap.objs.size + 1)) { s with heap := sortedAll s.heap vs out }) :
    wpAny (model prog w) A (call (.builtin "sorted") [.ref l]) Q E s := by
  have ln : vs.length ≤ sizeLine := by
    rw [sizeLine_eq]
    omega
  refine Calls.call_function_entry kind_sorted plain_sorted entry_sorted
    (args_sorted1 _) ?_
  unfold Builtin.«sorted»
  refine wpAny_bind (m := checkCount "sorted" 1 1 _)
    (wpAny_pure ?_)
  refine wpAny_bind (collect_list hl ?_ ln)
  refine wpAny_bind (wpAny_newList ?_ ln)
  obtain ⟨G, hG⟩ : ∃ G, G = (s.heap.push (seqObj "list" #[] 0)).update s.heap.objs.size (Obj.mapSeq (· ++ vs.toArray)) := ⟨_, rfl⟩
  have zG : G.objs.size = s.heap.objs.size + 1 := by rw [hG, Heap.size_update, size_push']
  have stays : ∀ b o, s.heap.get? b = some o → o.cls = .type "tuple" → (G.push (seqObj "list" vs.toArray 0)).get? b = some o := fun b o q _ => by
    have lt : b < s.heap.objs.size := Heap.lt_size q
    rw [Heap.get?_push_ne _ _ _ (by rw [zG]; exact Nat.ne_of_lt (Nat.lt_succ_of_lt lt)), hG, Heap.get?_update_ne _ _ _ _ (Nat.ne_of_lt lt), Heap.get?_push_ne _ _ _ (Nat.ne_of_lt lt)]
    exact q
  have here : (G.push (seqObj "list" vs.toArray 0)).get? (s.heap.objs.size + 1) = some (seqObj "list" vs.toArray 0) := by
    rw [← zG]
    exact Heap.get?_push_size _ rfl
  rw [← hG]
  show wpAny _ _ _ _ _ { s with heap := G.push (seqObj "list" vs.toArray 0) }
  rw [zG]
  refine wpAny_bind (wpAny_holding (wpAny_call_entry slot_list_sort ⟨_, here, rfl⟩ entry_list_sort
    (sort_prs (s := { s with heap := G.push (seqObj "list" vs.toArray 0) }) here h64 (fun v hv => ?_) fun out a1 a2 => ⟨_, rfl, wpAny_pure ⟨_, rfl, ?_⟩⟩) (args_list_sort _)))
  · obtain ⟨p, hp⟩ := x v hv
    exact ⟨p, hp.keeps stays⟩
  · have := h out a1 (List.Pairwise.imp_of_mem (fun {u v} hu hv q => by
      have mu := a1.mem_iff.mp hu
      have mv := a1.mem_iff.mp hv
      obtain ⟨p, hp⟩ := x u mu
      obtain ⟨p', hp'⟩ := x v mv
      have := rk_le (h := G.push (seqObj "list" vs.toArray 0)) mv q
      rw [(hp.keeps stays).tx, (hp'.keeps stays).tx] at this
      rw [hp.tx, hp'.tx]; exact this) a2)
    rw [hG]
    exact this
end

/-! ### the rule -/
def PrI (K : PySem.W.Frag) (H : Hp) (x : V) (p : SP) : Prop := ∃ t, x = .ref t ∧ SqT K H t [.str p.1, .str p.2]
def rSortPr (K : PySem.W.Frag) : List V → Hp → VK → Prop := fun vs H Q => ∃ (a : Addr) (xs : List V), vs = [V.ref a] ∧ SqL K H a xs ∧ xs.length < 64 ∧ (∀ x ∈ xs, ∃ p, PrI K H x p) ∧
  ∀ (ys : List V) (l : Addr), ys.Perm xs → ys.Pairwise (fun x y => ∀ p q, PrI K H x p → PrI K H y q → lePr p q = true) → H l = none → Q (.ref l) (upd H l (.lst ys))
theorem prI_raw {X : Cx} {pins : List (Addr × Obj)} {σ : St} {H : Hp} {s : Shared} (I : Inv X pins σ H s) {t : Addr} {p : SP} (h : SqT X.K H t [.str p.1, .str p.2]) : PrIn s.heap (.ref t) p := by
  obtain ⟨its, r, ht, _⟩ := I.tuple h
  cases r with
  | cons r1 r =>
    cases r with
    | cons r2 r =>
      cases r
      obtain ⟨t1, rfl⟩ := (show ∃ t, _ = Value.str p.1 t from r1)
      obtain ⟨t2, rfl⟩ := (show ∃ t, _ = Value.str p.2 t from r2)
      exact ⟨t, t1, t2, rfl, ht⟩
theorem cr_sortPr {X : Cx} : CallR X (.builtin "sorted") (rSortPr X.K) := by
  intro pins s σ H vs us Q I r h
  obtain ⟨a, xs, rfl, hs, h64, hx, q⟩ := h
  obtain ⟨its, rv, hl, hz⟩ := I.list hs
  rw [Vals.ref1 r]
  obtain ⟨e1, e2⟩ := bkV_refs rv fun x m => by
    obtain ⟨_, t, e, _⟩ := hx x m
    exact ⟨t, e⟩
  have raw : ∀ v ∈ its, ∃ p, PrI X.K H (bkV v) p ∧ PrIn s.heap v p := fun v hv => by
    obtain ⟨t, rfl⟩ := e2 v hv
    obtain ⟨p, t', e, ht⟩ := hx (V.ref t) (by rw [e1]; exact List.mem_map.mpr ⟨_, hv, rfl⟩)
    cases e
    exact ⟨p, ⟨t, rfl, ht⟩, prI_raw I ht⟩
  refine sorted_prs hl.isList (by rw [← rv.length]; exact h64) (fun v hv => (raw v hv).imp fun _ z => z.2) fun out h1 h2 => ?_
  obtain ⟨ep, he'⟩ := PyProof.Rows.sortedAll_at s.heap its out
  have h3 : ∀ u ∈ out.toList, ∃ a, u = Value.ref a := fun u hu => e2 u (h1.mem_iff.mp hu)
  have hp : (out.toList.map bkV).Perm xs := by
    rw [e1]; exact h1.map bkV
  refine ⟨.ref (s.heap.objs.size + 1), upd H (s.heap.objs.size + 1) (.lst (out.toList.map bkV)), I.laid (t' := s.toks) (fun _ _ z => PyProof.Rows.sortedAll_old z) (Nat.le_succ _) ⟨by rw [hp.length_eq]; exact hz, out.toList, ep, bkV_vals h3, he'⟩, rfl, q _ _ hp ?_ (I.hok.fresh (Nat.le_succ _))⟩
  rw [List.pairwise_map]
  refine List.Pairwise.imp (fun {u v} huv p p' hn hm => ?_) h2
  obtain ⟨t, et, ht⟩ := hn
  obtain ⟨t', et', ht'⟩ := hm
  have eu := bkV_ref et
  have ev := bkV_ref et'
  rw [eu, ev, (prI_raw I ht).tx, (prI_raw I ht').tx] at huv
  exact huv

/-! ### on data -/
def asPrs : List D → Option (List SP)
  | [] => some []
  | .tup [.str a, .str b] :: ds => (asPrs ds).bind fun ps => some ((a, b) :: ps)
  | _ => none
def prDD (p : SP) : D := .tup [.str p.1, .str p.2]
theorem asPrs_E : ∀ {ds : List D} {ps : List SP}, asPrs ds = some ps → ds = ps.map prDD
  | [], ps, h => by cases h; rfl
  | d :: ds, ps, h => by
    unfold asPrs at h
    split at h
    · rename_i e; cases e
    · rename_i a b ds' e
      cases e
      cases e2 : asPrs ds with
      | none => rw [e2] at h; cases h
      | some qs =>
        rw [e2] at h
        cases h
        rw [asPrs_E e2]; rfl
    · cases h
theorem asPrs_map : ∀ ps : List SP, asPrs (ps.map prDD) = some ps
  | [] => rfl
  | p :: ps => by
    rw [List.map_cons]
    show (asPrs (ps.map prDD)).bind _ = _
    rw [asPrs_map ps]; rfl
def sortPD : D → Option D
  | .lst ds => (asPrs ds).bind fun ps => if ps.length < 64 then some (.lst ((sortPr ps).map prDD)) else none
  | _ => none
theorem Reps.mem {K : PySem.W.Frag} {F : Hp} : ∀ {vs : List V} {ds : List D}, Reps K F vs ds → ∀ v ∈ vs, ∃ d ∈ ds, Rep K F v d
  | _, _, .nil, v, h => by cases h
  | _, _, .cons r t, v, h => by
    rcases List.mem_cons.mp h with rfl | h
    · exact ⟨_, List.mem_cons_self, r⟩
    · obtain ⟨d, m, q⟩ := Reps.mem t v h
      exact ⟨d, List.mem_cons_of_mem _ m, q⟩
theorem reps_perm {K : PySem.W.Frag} {F : Hp} {ys xs : List V} (p : ys.Perm xs) : ∀ {ds : List D}, Reps K F xs ds → ∃ es, Reps K F ys es ∧ es.Perm ds := by
  induction p with
  | nil => intro ds r; exact ⟨ds, r, .refl _⟩
  | cons x _ ih =>
    intro ds r
    cases r with
    | cons a t =>
      obtain ⟨es, q1, q2⟩ := ih t
      exact ⟨_ :: es, .cons a q1, q2.cons _⟩
  | swap x y l =>
    intro ds r
    cases r with
    | cons a t =>
      cases t with
      | cons b t => exact ⟨_, .cons b (.cons a t), .swap _ _ _⟩
  | trans _ _ ih1 ih2 =>
    intro ds r
    obtain ⟨es, q1, q2⟩ := ih2 r
    obtain ⟨fs, q3, q4⟩ := ih1 q1
    exact ⟨fs, q3, q4.trans q2⟩
theorem rep_pr {K : PySem.W.Frag} {F : Hp} {v : V} {p : SP} (h : Rep K F v (prDD p)) : ∃ t, v = .ref t ∧ TupF F t [.str p.1, .str p.2] := by
  cases h with
  | tup e r =>
    cases r with
    | cons a r =>
      cases r with
      | cons b r =>
        cases r
        cases a
        cases b
        exact ⟨_, rfl, e⟩
theorem s_sortP {K : PySem.W.Frag} : OpN K (.lst .leaf) (rSortPr K) (one sortPD) := by
  refine s_one fun F H x d z Q sm hx ef k => ?_
  cases d with
  | lst es =>
    have ef' : ((asPrs es).bind fun ps => if ps.length < 64 then some (D.lst ((sortPr ps).map prDD)) else none) = some z := ef
    cases e1 : asPrs es with
    | none => rw [e1] at ef'; cases ef'
    | some ps =>
      rw [e1, Option.bind_some] at ef'
      by_cases hl : ps.length < 64
      · rw [if_pos hl] at ef'
        cases ef'
        have ee := asPrs_E e1
        subst ee
        obtain ⟨p, vs, rfl, eH, r⟩ := hx.lstE sm
        have each : ∀ v ∈ vs, ∃ q ∈ ps, ∃ t, v = .ref t ∧ TupF F t [.str q.1, .str q.2] := fun v m => by
          obtain ⟨d, md, rd⟩ := r.mem v m
          obtain ⟨q, mq, rfl⟩ := List.mem_map.mp md
          obtain ⟨t, e2, e3⟩ := rep_pr rd
          exact ⟨q, mq, t, e2, e3⟩
        have sqt : ∀ {t : Addr} {q : SP}, TupF F t [.str q.1, .str q.2] → SqT K H t [.str q.1, .str q.2] := fun h => (h.mono sm).sq K
        refine ⟨p, vs, rfl, .of eH, by rw [r.length, List.length_map]; exact hl, fun v m => ?_, fun ys l py pw nl => ?_⟩
        · obtain ⟨q, _, t, e2, e3⟩ := each v m
          exact ⟨q, t, e2, sqt e3⟩
        · obtain ⟨gs, r2, p2⟩ := reps_perm py r
          obtain ⟨qs, rfl, pq⟩ : ∃ qs : List SP, gs = qs.map prDD ∧ qs.Perm ps := by
            have hall : ∀ g ∈ gs, ∃ q, g = prDD q := fun g m => by
              obtain ⟨q, _, rfl⟩ := List.mem_map.mp (p2.mem_iff.mp m)
              exact ⟨q, rfl⟩
            have hsome : asPrs gs = some ((gs.map fun g => match g with | .tup [.str a, .str b] => (a, b) | _ => (⟨#[]⟩, ⟨#[]⟩))) := by
              clear p2 r2
              induction gs with
              | nil => rfl
              | cons g gs ih =>
                obtain ⟨q, rfl⟩ := hall g List.mem_cons_self
                show (asPrs gs).bind _ = _
                rw [ih fun x m => hall x (List.mem_cons_of_mem _ m)]
                rfl
            have eg := asPrs_E hsome
            refine ⟨_, eg, ?_⟩
            have inj : ∀ {l m : List SP}, (l.map prDD).Perm (m.map prDD) → l.Perm m := fun {l m} h => by
              have := h.map fun g : D => (match g with | .tup [.str a, .str b] => (a, b) | _ => ((⟨#[]⟩, ⟨#[]⟩) : SP))
              rw [List.map_map, List.map_map] at this
              have idm : ∀ l : List SP, l.map ((fun g : D => (match g with | .tup [.str a, .str b] => (a, b) | _ => ((⟨#[]⟩, ⟨#[]⟩) : SP))) ∘ prDD) = l := fun l => (List.map_congr_left fun _ _ => rfl).trans (List.map_id l)
              rwa [idm, idm] at this
            refine inj ?_
            rw [← eg]; exact p2
          have pw2 : qs.Pairwise fun p q => lePr p q = true := by
            have key : ∀ {ys : List V} {qs : List SP}, Reps K F ys (qs.map prDD) → ys.Pairwise (fun x y => ∀ p q, PrI K H x p → PrI K H y q → lePr p q = true) → qs.Pairwise fun p q => lePr p q = true := by
              intro ys qs
              induction qs generalizing ys with
              | nil => intro _ _; exact List.Pairwise.nil
              | cons q qs ih =>
                intro r pw
                cases r with
                | @cons v _ vs' _ ra rb =>
                  obtain ⟨h1, h2⟩ := List.pairwise_cons.mp pw
                  refine List.pairwise_cons.mpr ⟨fun q' m => ?_, ih rb h2⟩
                  obtain ⟨i, hi, ei⟩ := List.mem_iff_getElem.mp m
                  obtain ⟨v', e1, e2⟩ := rb.get (i := i) (d := prDD q') (by rw [List.getElem?_map, List.getElem?_eq_getElem hi, ei]; rfl)
                  obtain ⟨t, ea, eb⟩ := rep_pr ra
                  obtain ⟨t', ea', eb'⟩ := rep_pr e2
                  exact h1 v' (List.mem_of_getElem? e1) q q' ⟨t, ea, sqt eb⟩ ⟨t', ea', sqt eb'⟩
            exact key r2 pw
          have eq := sortPr_uniq pq pw2
          rw [eq] at r2
          exact k.newL sm r2 nl
      · rw [if_neg hl] at ef'; cases ef'
  | _ => cases ef
section
variable {X : Cx} (K : PySem.W.Frag) (hK : X.K = K)
include hK
theorem k_sortP : CallR X (.builtin "sorted") (rSortPr K) := hK ▸ cr_sortPr
end
end VL
/-! V39: == of dicts, of dicts of dicts (their last values True). -/
namespace VL
open PySem PySem.Spec L2
/-- a walk over the entries of the one: found in the other, their values compared by R -/
inductive Hits (R : V → V → Bool → Prop) (ls : List (Key × V)) : List (Key × V) → Bool → Prop
  | nil : Hits R ls [] true
  | miss {k : Key} {v : V} {r : List (Key × V)} : valV ls k = none → Hits R ls ((k, v) :: r) false
  | hit {k : Key} {v u : V} {r : List (Key × V)} {e b : Bool} : valV ls k = some u → R v u e → Hits R ls r b → Hits R ls ((k, v) :: r) (e && b)
def EqDt (H : Hp) (R : V → V → Bool → Prop) (v u : V) (e : Bool) : Prop := ∃ a b ks ls c, v = .ref a ∧ u = .ref b ∧ Rd H a (.dK ks) ∧ Rd H b (.dK ls) ∧ Hits R ls ks c ∧ e = ((ks.length == ls.length) && c)
def EqT0 (v u : V) (e : Bool) : Prop := v = .bl true ∧ u = .bl true ∧ e = true
section
variable {P : Program} {w : World}
theorem hits_go {A : Around} {s : Shared} {R : V → V → Bool → Prop} (ih : ∀ v u e x y, R v u e → RelV v x → RelV u y → SeqAt.EqP P w A s x y e) {ls : List (Key × V)} {vb : List (Key × Value)} (rb : KV ls vb) {ks : List (Key × V)} {c : Bool} (h : Hits R ls ks c) :
    ∀ {va : List (Key × Value)}, KV ks va → PySem.W.KeqHitsP P w A s vb va c := by
  induction h with
  | nil => intro va ra; cases ra; exact .nil
  | @miss k v r e =>
    intro va ra
    cases ra with
    | @cons _ q _ qs h t =>
      obtain ⟨key, x⟩ := q
      obtain ⟨h1, _⟩ := h
      have h1' : k = key := h1
      subst h1'
      refine .miss ?_
      have := rb.val k
      rw [e] at this
      cases ev : valueAt vb k with
      | none => rfl
      | some y => rw [ev] at this; exact this.elim
  | @hit k v u r e b e1 hR _ ihr =>
    intro va ra
    cases ra with
    | @cons _ q _ qs h t =>
      obtain ⟨key, x⟩ := q
      obtain ⟨h1, h2⟩ := h
      have h1' : k = key := h1
      subst h1'
      have rr : RelO (some u) (valueAt vb k) := by rw [← e1]; exact rb.val k
      obtain ⟨y, hy, ry⟩ := rr.some_of
      exact .hit hy (ih _ _ _ _ _ hR h2 ry) (ihr t)
theorem eqDt_run {X : Cx} {pins : List (Addr × Obj)} {σ : St} {H : Hp} {s : Shared} (I : Inv X pins σ H s) {A : Around} (hu : A.units < cLine) {R : V → V → Bool → Prop} (ih : ∀ v u e x y, R v u e → RelV v x → RelV u y → SeqAt.EqP X.prog X.w A.in1 s x y e)
    {v u : V} {e : Bool} {x y : Value} (h : EqDt H R v u e) (rx : RelV v x) (ry : RelV u y) (E Q : Value → Shared → Prop) (q : Q (.bool e) s) : wpAny (model X.prog X.w) A (richCompare .Eq x y) Q E s := by
  obtain ⟨a, b, ks, ls, c, rfl, rfl, ha, hb, hh, rfl⟩ := h
  cases (show x = Value.ref a from rx)
  cases (show y = Value.ref b from ry)
  obtain ⟨_, ya, va, ra, da⟩ := dk_rd I.hok ha
  obtain ⟨_, yb, vb, rb, db⟩ := dk_rd I.hok hb
  refine PySem.W.rcP_dicts (knd := mixKind X.prog X.w) (r := c) ya yb da db hu (fun _ => hits_go ih rb hh ra) E Q ?_
  rw [← ra.length, ← rb.length]
  exact q
/-- a relation that holds of a cell and itself with true alone -/
def Refl1 (R : V → V → Bool → Prop) : Prop := ∀ a e, R (.ref a) (.ref a) e → e = true
theorem eqP_of {X : Cx} {pins : List (Addr × Obj)} {σ : St} {H : Hp} {s : Shared} (I : Inv X pins σ H s) {A : Around} (hu : A.units < cLine) {R : V → V → Bool → Prop} (hr : Refl1 (EqDt H R)) (ih : ∀ v u e x y, R v u e → RelV v x → RelV u y → SeqAt.EqP X.prog X.w A.in1 s x y e) :
    ∀ v u e x y, EqDt H R v u e → RelV v x → RelV u y → SeqAt.EqP X.prog X.w A s x y e := fun v u e x y h rx ry => by
  obtain ⟨a, b, ks, ls, c, rfl, rfl, hh⟩ := id h
  cases (show x = Value.ref a from rx)
  cases (show y = Value.ref b from ry)
  by_cases ab : a = b
  · subst ab
    rw [hr a e h]
    exact (SeqAt.EqAt.same _).eqP
  · exact SeqAt.eqP_refs ab (eqDt_run I hu ih h rx ry)
theorem eqT0_run {X : Cx} {A : Around} {s : Shared} : ∀ v u e x y, EqT0 v u e → RelV v x → RelV u y → SeqAt.EqP X.prog X.w A s x y e := fun v u e x y ⟨h1, h2, h3⟩ rx ry => by
  subst h1 h2 h3
  exact (eqAt_same rx ry rfl).eqP
theorem rd_uniq {H : Hp} {a : Addr} {ks ls : List (Key × V)} (h : Rd H a (.dK ks)) (k : Rd H a (.dK ls)) : ks = ls := by
  rcases h with h | ⟨o, h⟩
  · rcases k with k | ⟨o', k⟩
    · rw [h] at k; cases k; rfl
    · rw [h] at k; cases k
  · rcases k with k | ⟨o', k⟩
    · rw [h] at k; cases k
    · rw [h] at k; cases k; rfl
theorem hits_self {ls : List (Key × V)} : ∀ {r : List (Key × V)} {c : Bool}, (∀ p ∈ r, p ∈ ls) → Hits EqT0 ls r c → c = true
  | _, _, _, .nil => rfl
  | (k, v) :: r, _, h, .miss e => by
    exfalso
    have m := h _ List.mem_cons_self
    unfold valV at e
    rw [Option.map_eq_none_iff, List.find?_eq_none] at e
    exact e _ m (decide_eq_true rfl)
  | _ :: r, _, h, .hit _ hR t => by
    rw [hR.2.2, hits_self (fun p m => h p (List.mem_cons_of_mem _ m)) t]; rfl
theorem refl_1 {H : Hp} : Refl1 (EqDt H EqT0) := fun a e ⟨a1, b1, ks, ls, c, e1, e2, ha, hb, hh, e3⟩ => by
  cases e1
  cases e2
  have := rd_uniq ha hb
  subst this
  rw [e3, hits_self (fun _ m => m) hh]; simp
end
def rEqDD (n : Nat) : R2 := fun x y H Q => ∃ c, (if n = 0 then EqDt H EqT0 x y c else EqDt H (EqDt H EqT0) x y c) ∧ Q (.bl c) H
theorem op_eqDD {X : Cx} {n : Nat} (hu : X.A.units + 64 < cLine) : OpR X (compareOp .Eq) (rEqDD n) := by
  intro pins s σ H x y v u Q I rx ry h
  obtain ⟨c, h, q⟩ := h
  by_cases hn : n = 0
  · rw [if_pos hn] at h
    exact eqDt_run I (A := X.A) (by omega) (fun v u e x y => eqT0_run v u e x y) h rx ry _ _ ⟨.bl c, H, I, rfl, q⟩
  · rw [if_neg hn] at h
    exact eqDt_run I (A := X.A) (by omega) (eqP_of I (A := X.A.in1) (by show X.A.units + 1 < cLine; omega) refl_1 fun v u e x y => eqT0_run v u e x y) h rx ry _ _ ⟨.bl c, H, I, rfl, q⟩
/-! ### on data -/
def isT : D → Bool
  | .bl true => true
  | _ => false
def eqT0D (d e : D) : Option Bool := if isT d && isT e then some true else none
def hitsD (f : D → D → Option Bool) (ls : List (Key × D)) : List (Key × D) → Option Bool
  | [] => some true
  | (k, d) :: r => match look ls k with
    | none => some false
    | some e => (f d e).bind fun x => (hitsD f ls r).bind fun b => some (x && b)
def eqDtD (f : D → D → Option Bool) : D → D → Option Bool
  | .dK ks, .dK ls => (hitsD f ls ks).bind fun c => some ((ks.length == ls.length) && c)
  | _, _ => none
def eqDDd (d e : D) : Option D := (eqDtD (eqDtD eqT0D) d e).bind fun c => some (.bl c)
/-- f tells what R does -/
def Tells (K : PySem.W.Frag) (F : Hp) (f : D → D → Option Bool) (R : V → V → Bool → Prop) : Prop := ∀ d e c v u, f d e = some c → Rep K F v d → Rep K F u e → R v u c
theorem isT_E {d : D} (h : isT d = true) : d = .bl true := by
  unfold isT at h
  split at h
  · rfl
  · cases h
theorem tells0 {K : PySem.W.Frag} {F : Hp} : Tells K F eqT0D EqT0 := fun d e c v u h r1 r2 => by
  unfold eqT0D at h
  split at h
  · rename_i z
    cases h
    rw [Bool.and_eq_true] at z
    have e1 := isT_E z.1
    have e2 := isT_E z.2
    subst e1 e2
    cases r1
    cases r2
    exact ⟨rfl, rfl, rfl⟩
  · cases h
theorem hits_of {K : PySem.W.Frag} {F : Hp} {f : D → D → Option Bool} {R : V → V → Bool → Prop} (t : Tells K F f R) {lv : List (Key × V)} {ld : List (Key × D)} (el : lv.map Prod.fst = ld.map Prod.fst) (rl : Reps K F (lv.map Prod.snd) (ld.map Prod.snd)) :
    ∀ {kv : List (Key × V)} {kd : List (Key × D)} {c : Bool}, kv.map Prod.fst = kd.map Prod.fst → Reps K F (kv.map Prod.snd) (kd.map Prod.snd) → hitsD f ld kd = some c → Hits R lv kv c
  | [], [], c, _, _, h => by cases h; exact .nil
  | [], _ :: _, _, e, _, _ => by cases e
  | _ :: _, [], _, e, _, _ => by cases e
  | (a, v) :: kv, (b, d) :: kd, c, e, r, h => by
    have e1 : a = b := (List.cons.inj e).1
    have e2 := (List.cons.inj e).2
    subst e1
    cases r with
    | cons rv rr =>
      obtain ⟨l1, l2⟩ := look_val a el rl
      have h' : (match look ld a with | none => some false | some e => (f d e).bind fun x => (hitsD f ld kd).bind fun b => some (x && b)) = some c := h
      cases e3 : look ld a with
      | none => rw [e3] at h'; cases h'; exact .miss (l1 e3)
      | some g =>
        rw [e3] at h'
        obtain ⟨u, u1, u2⟩ := l2 g e3
        cases e4 : f d g with
        | none =>
          have h2 : ((f d g).bind fun x => (hitsD f ld kd).bind fun b => some (x && b)) = some c := h'
          rw [e4] at h2; cases h2
        | some x =>
          have h2 : ((f d g).bind fun x => (hitsD f ld kd).bind fun b => some (x && b)) = some c := h'
          rw [e4, Option.bind_some] at h2
          cases e5 : hitsD f ld kd with
          | none => rw [e5] at h2; cases h2
          | some y =>
            rw [e5] at h2
            cases h2
            exact .hit u1 (t _ _ _ _ _ e4 rv u2) (hits_of t el rl e2 rr e5)
theorem tells_dt {K : PySem.W.Frag} {F H : Hp} (sm : Sub F H) {f : D → D → Option Bool} {R : V → V → Bool → Prop} (t : Tells K F f R) : Tells K F (eqDtD f) (EqDt H R) := fun d e c v u h r1 r2 => by
  cases d with
  | dK ks =>
    cases e with
    | dK ls =>
      have h' : ((hitsD f ls ks).bind fun c => some ((ks.length == ls.length) && c)) = some c := h
      cases e1 : hitsD f ls ks with
      | none => rw [e1] at h'; cases h'
      | some b =>
        rw [e1] at h'
        cases h'
        obtain ⟨p, kv, rfl, rp, ek, rk⟩ := (Vw.rep (H := H) r1).dKE sm
        obtain ⟨q, lv, rfl, rq, el, rl⟩ := (Vw.rep (H := H) r2).dKE sm
        have n1 : kv.length = ks.length := by have := congrArg List.length ek; rwa [List.length_map, List.length_map] at this
        have n2 : lv.length = ls.length := by have := congrArg List.length el; rwa [List.length_map, List.length_map] at this
        exact ⟨p, q, kv, lv, b, rfl, rfl, rp, rq, hits_of t el rl ek rk e1, by rw [n1, n2]⟩
    | _ => cases h
  | _ => cases h
theorem s_eqDD {K : PySem.W.Frag} : Op2 K .leaf (rEqDD 1) eqDDd := by
  intro F H x y d e z Q sm hx hy h k
  unfold eqDDd at h
  cases e1 : eqDtD (eqDtD eqT0D) d e with
  | none => rw [e1] at h; cases h
  | some c =>
    rw [e1] at h
    cases h
    refine ⟨c, ?_, k.here sm (.bl c)⟩
    rw [if_neg (by decide)]
    cases d with
    | dK ks =>
      cases e with
      | dK ls =>
        have h' : ((hitsD (eqDtD eqT0D) ls ks).bind fun c => some ((ks.length == ls.length) && c)) = some c := e1
        cases e2 : hitsD (eqDtD eqT0D) ls ks with
        | none => rw [e2] at h'; cases h'
        | some b =>
          rw [e2] at h'
          cases h'
          obtain ⟨p, kv, rfl, rp, ek, rk⟩ := hx.dKE sm
          obtain ⟨q, lv, rfl, rq, el, rl⟩ := hy.dKE sm
          have n1 : kv.length = ks.length := by have := congrArg List.length ek; rwa [List.length_map, List.length_map] at this
          have n2 : lv.length = ls.length := by have := congrArg List.length el; rwa [List.length_map, List.length_map] at this
          exact ⟨p, q, kv, lv, b, rfl, rfl, rp, rq, hits_of (tells_dt sm tells0) el rl ek rk e2, by rw [n1, n2]⟩
      | _ => cases e1
    | _ => cases e1
end VL
/-! V40: sorted of a list or a tuple of texts. -/
namespace VL
open PySem PySem.Spec L2
def leTx (x y : Str) : Bool := !decide (y.cps.toList < x.cps.toList)
theorem leTx_trans (a b c : Str) (h1 : leTx a b = true) (h2 : leTx b c = true) : leTx a c = true := by
  unfold leTx at *
  rw [Bool.not_eq_true', decide_eq_false_iff_not] at *
  exact List.le_trans h1 h2
theorem leTx_total (a b : Str) : (leTx a b || leTx b a) = true := by
  unfold leTx
  rcases List.le_total a.cps.toList b.cps.toList with h | h
  · rw [decide_eq_false (show ¬ b.cps.toList < a.cps.toList from h)]; rfl
  · rw [decide_eq_false (show ¬ a.cps.toList < b.cps.toList from h)]; simp
def sortTx (l : List Str) : List Str := l.mergeSort leTx
theorem sortTx_perm (l : List Str) : (sortTx l).Perm l := List.mergeSort_perm l leTx
theorem sortTx_pw (l : List Str) : (sortTx l).Pairwise fun p q => leTx p q = true := List.pairwise_mergeSort leTx_trans leTx_total l
theorem sortTx_uniq {l m : List Str} (p : m.Perm l) (h : m.Pairwise fun p q => leTx p q = true) : m = sortTx l := by
  refine List.Perm.eq_of_pairwise (le := fun p q => leTx p q = true) (fun a b _ _ h1 h2 => ?_) h (sortTx_pw l) (p.trans (sortTx_perm l).symm)
  unfold leTx at h1 h2
  rw [Bool.not_eq_true', decide_eq_false_iff_not] at h1 h2
  exact lt_tri h2 h1
theorem lt_le_tr {a b c : List Nat} (h1 : a < b) (h2 : ¬ c < b) : a < c := Decidable.byContradiction fun h => h2 (List.lt_of_le_of_lt (show c ≤ a from h) h1)
def txOfV : Value → Str
  | .str x _ => x
  | _ => ⟨#[]⟩
def rkTx (vs : List Value) (v : Value) : Int := ((vs.countP fun u => decide ((txOfV u).cps.toList < (txOfV v).cps.toList) : Nat) : Int)
theorem rkTx_lt {vs : List Value} {v u : Value} (hv : v ∈ vs) : decide (rkTx vs v < rkTx vs u) = decide ((txOfV v).cps.toList < (txOfV u).cps.toList) := by
  unfold rkTx
  by_cases e : (txOfV v).cps.toList < (txOfV u).cps.toList
  · rw [decide_eq_true e]
    refine decide_eq_true (Int.ofNat_lt.mpr (countP_lt (fun x _ hx => decide_eq_true (List.lt_trans (of_decide_eq_true hx) e)) ⟨v, hv, decide_eq_false (List.lt_irrefl _), decide_eq_true e⟩))
  · rw [decide_eq_false e]
    refine decide_eq_false (Int.not_lt.mpr (Int.ofNat_le.mpr (List.countP_mono_left fun x _ hx => decide_eq_true ?_)))
    exact lt_le_tr (of_decide_eq_true hx) e
section
variable {prog : Program} {w : World} {A : Around} {E : Value → Shared → Prop} {s : Shared}
open PyProof.Rows in
theorem sort_txs {a : Addr} {vs : List Value} {n : Nat} {Pf : PySem.Fin → Shared → Prop} (ho : s.heap.get? a = some (seqObj "list" vs.toArray n)) (h64 : vs.length < 64) {ss : List Str} (hS : StrsAre vs ss)
    (h : ∀ out : Array Value, out.toList.Perm vs → out.toList.Pairwise (fun u v => rkTx vs u ≤ rkTx vs v) → Pf (.done (.ret .none)) { s with heap := sortedHeap s.heap a vs out }) :
    wpAny (model prog w) A (Builtin.«list.sort» ⟨[.ref a], []⟩) Pf E s := by
  refine SK.plain_sort (r := rkTx vs) ho h64 (fun h2 Q hQ => ?_) fun ps out h1 h2 h3 => ?_
  · obtain ⟨v1, v2, vr, rfl⟩ : ∃ v1 v2 vr, vs = v1 :: v2 :: vr := by
      match vs, h2 with
      | v1 :: v2 :: vr, _ => exact ⟨v1, v2, vr, rfl⟩
    rw [keyKind_strs hS]
    refine wpAny_pure (hQ _ ?_)
    intro p q hp hq Q' E' hQ'
    rw [pairsOf_toList] at hp hq
    have mp := (mem_zip_self hp).2
    have mq := (mem_zip_self hq).2
    rw [rkTx_lt mp] at hQ'
    obtain ⟨x, t, e1⟩ := hS.all _ mp
    obtain ⟨y, u, e2⟩ := hS.all _ mq
    rw [e1, e2] at hQ' ⊢
    exact PySem.W.kas_lt_str hQ'
  · obtain ⟨p, o⟩ := TS.out_rank h1 h2 h3
    exact h out p o
open PyProof.Rows in
theorem collect_any {l : Addr} {T : String} {ob : Obj} {vs : List Value} {n : Nat} {Q : List Value → Shared → Prop} (hT : T = "list" ∨ T = "tuple") (ho : s.heap.get? l = some ob) (hc : ob.cls = .type T) (hd : ob.data = .seq vs.toArray n) (ln : vs.length ≤ sizeLine)
    (h : ∀ G : Heap, G.objs.size = s.heap.objs.size + 1 → (∀ b o, s.heap.get? b = some o → G.get? b = some o) → Q vs { s with heap := G }) : wpAny (model prog w) A (collect (.ref l)) Q E s := by
  obtain ⟨G0, hG0⟩ : ∃ G0, G0 = s.heap.push (seqObj "list" #[] 0) := ⟨_, rfl⟩
  have e0 : G0.get? s.heap.objs.size = some (seqObj "list" #[] 0) := by
    rw [hG0]
    exact Heap.get?_push_size _ rfl
  have k0 : ∀ b o, s.heap.get? b = some o → G0.get? b = some o := fun b o z => by
    rw [hG0]
    exact Heap.get?_push_of_some _ z
  obtain ⟨G, hG⟩ : ∃ G, G = G0.update s.heap.objs.size (Obj.mapSeq (· ++ vs.toArray)) := ⟨_, rfl⟩
  have e1 := Heap.get?_update_self (Obj.mapSeq (· ++ vs.toArray)) e0 rfl
  have zG : G.objs.size = s.heap.objs.size + 1 := by
    rw [hG, Heap.size_update, hG0, size_push']
  have kG : ∀ b o, s.heap.get? b = some o → G.get? b = some o := fun b o z => by
    rw [hG, Heap.get?_update_ne _ _ _ _ (Nat.ne_of_lt (Heap.lt_size z))]
    exact k0 b o z
  unfold collect
  refine wpAny_bind (wpAny_runValue
    (codeAny_builtin PySem.F.entry_proto_collect ?_))
  rw [Around.under_plainId PySem.F.plain_proto_collect _]
  change wpAny _ A.in1 (newList [] >>= fun x => again (.builtin "list.__iadd__" ⟨[x, .ref l], []⟩)) _ _ s
  refine wpAny_bind (wpAny_newObj_type ?_)
  refine wpAny_pure ⟨plainId_quiet PySem.F.plain_list_iadd _,
    codeAny_builtin PySem.F.entry_list_iadd ?_⟩
  rw [Around.under_plainId PySem.F.plain_list_iadd _]
  change wpAny _ A.in1 (Builtin.List.listExtendWith (.ref s.heap.objs.size) (.ref l) (.ref s.heap.objs.size)) _ _ { s with heap := s.heap.push (seqObj "list" #[] 0) }
  rw [← hG0]
  have last : wpAny (model prog w) A (match Value.ref s.heap.objs.size with
      | .ref a => do
        match (← load a).data with
          | .seq xs _ => pure xs.toList
          | _ => unsupported "internal:collect"
      | _ => unsupported "internal:collect") Q E { s with heap := G } := by
    change wpAny _ A (load s.heap.objs.size >>= _) _ _ _
    rw [← hG] at e1
    refine wpAny_bind (wpAny_load e1 (wpAny_pure ?_))
    have e : ((#[] : Array Value) ++ vs.toArray).toList = vs := by simp
    change Q ((#[] : Array Value) ++ vs.toArray).toList _
    rw [e]
    exact h G zG kG
  refine wpAny_mono (wpAny_extend_seq (A := A) (R := fun r s' => r = .ok (.ret (.ref s.heap.objs.size)) ∧ s' = { s with heap := G }) (s := { s with heap := G0 }) s.heap.objs.size l (.ref s.heap.objs.size) 0 hT e0 (k0 _ _ ho) hc hd ⟨rfl, by rw [hG]⟩ (hsz := by rw [List.size_toArray]; exact ln)) (fun f s' z => ?_) fun e s' z => ?_
  · cases f with
    | done f =>
      obtain ⟨e, rfl⟩ := z
      cases e
      exact last
    | again c =>
      refine ⟨z.1, codeAny_mono z.2 fun r s2 z2 => ?_⟩
      obtain ⟨rfl, rfl⟩ := z2
      exact last
  · exact absurd z.1 (by simp)
open PyProof.Rows in
theorem sorted_txs {l : Addr} {T : String} {ob : Obj} {vs : List Value} {n : Nat} {Q : Value → Shared → Prop} (hT : T = "list" ∨ T = "tuple") (ho : s.heap.get? l = some ob) (hc : ob.cls = .type T) (hd : ob.data = .seq vs.toArray n) (h64 : vs.length < 64) {ss : List Str} (hS : StrsAre vs ss)
    (h : ∀ (out : Array Value) (h' : Heap) (e : Nat), out.toList.Perm vs → out.toList.Pairwise (fun u v => rkTx vs u ≤ rkTx vs v) → (∀ b o, s.heap.get? b = some o → h'.get? b = some o) → ∀ r, s.heap.objs.size ≤ r → h'.get? r = some (seqObj "list" out e) → Q (.ref r) { s with heap := h' }) :
    wpAny (model prog w) A (call (.builtin "sorted") [.ref l]) Q E s := by
  have ln : vs.length ≤ sizeLine := by
    rw [sizeLine_eq]
    omega
  refine Calls.call_function_entry kind_sorted plain_sorted entry_sorted
    (args_sorted1 _) ?_
  unfold Builtin.«sorted»
  refine wpAny_bind (m := checkCount "sorted" 1 1 _)
    (wpAny_pure ?_)
  refine wpAny_bind (collect_any hT ho hc hd ln fun G zG kp => ?_)
  refine wpAny_bind (wpAny_newList ?_ ln)
  have here : (G.push (seqObj "list" vs.toArray 0)).get? G.objs.size = some (seqObj "list" vs.toArray 0) := Heap.get?_push_size _ rfl
  have big : s.heap.objs.size ≤ G.objs.size := by rw [zG]; exact Nat.le_succ _
  show wpAny _ _ _ _ _ { s with heap := G.push (seqObj "list" vs.toArray 0) }
  refine wpAny_bind (wpAny_holding (wpAny_call_entry slot_list_sort ⟨_, here, rfl⟩ entry_list_sort
    (sort_txs (s := { s with heap := G.push (seqObj "list" vs.toArray 0) }) here h64 hS fun out a1 a2 => ⟨_, rfl, wpAny_pure ⟨_, rfl, ?_⟩⟩) (args_list_sort _)))
  obtain ⟨ep, he'⟩ := sortedHeap_at (vs := vs) (out := out) here
  refine h out _ ep a1 a2 (fun b o z => ?_) G.objs.size big he'
  have z2 := Heap.get?_push_of_some (seqObj "list" vs.toArray 0) (kp b o z)
  have nb : b ≠ G.objs.size := Nat.ne_of_lt (Heap.lt_size (kp b o z))
  rw [sortedHeap_old nb (Heap.lt_size z2)]
  exact z2
end
/-! ### the rule -/
def rSortTx (K : PySem.W.Frag) : List V → Hp → VK → Prop := fun vs H Q => ∃ (a : Addr) (xs : List Str), vs = [V.ref a] ∧ (SqL K H a (xs.map V.str) ∨ SqT K H a (xs.map V.str)) ∧ xs.length < 64 ∧ ∀ l, H l = none → Q (.ref l) (upd H l (.lst ((sortTx xs).map V.str)))
theorem cr_sortTx {X : Cx} : CallR X (.builtin "sorted") (rSortTx X.K) := by
  intro pins s σ H vs us Q I r h
  obtain ⟨a, xs, rfl, hq, h64, q⟩ := h
  rw [Vals.ref1 r]
  obtain ⟨its, T, ob, n, rv, hT, ho, hc, hd⟩ : ∃ (its : List Value) (T : String) (ob : Obj) (n : Nat), Vals (xs.map V.str) its ∧ (T = "list" ∨ T = "tuple") ∧ s.heap.get? a = some ob ∧ ob.cls = .type T ∧ ob.data = .seq its.toArray n := by
    rcases hq with hq | hq
    · obtain ⟨its, r', pl, hz⟩ := I.list hq
      obtain ⟨o, ho, hc, n, hd⟩ := pl.isList
      exact ⟨its, "list", o, n, r', .inl rfl, ho, hc, hd⟩
    · obtain ⟨its, r', pl, hz⟩ := I.tuple hq
      obtain ⟨o, ho, hc, n, hd⟩ := pl
      exact ⟨its, "tuple", o, n, r', .inr rfl, ho, hc, hd⟩
  have hlen := rv.length
  rw [List.length_map] at hlen
  have hS := rv.strs
  refine sorted_txs hT ho hc hd (by rw [← hlen]; exact h64) hS fun out G e p1 p2 kp r0 big he => ?_
  have h3 : ∀ u ∈ out.toList, ∃ x t, u = Value.str x t := fun u hu => hS.all u (p1.mem_iff.mp hu)
  have hS2 := PyProof.Rows.strsAre_map out.toList h3
  obtain ⟨ys, hys⟩ : ∃ ys, ys = out.toList.map PyProof.Rows.strOf := ⟨_, rfl⟩
  rw [← hys] at hS2
  have eys : ys = sortTx xs := by
    refine sortTx_uniq ?_ ?_
    · rw [hys, ← hS.strs]
      exact p1.map _
    · rw [hys, List.pairwise_map]
      refine List.Pairwise.imp_of_mem (fun {u v} hu hv q => ?_) p2
      have mv := p1.mem_iff.mp hv
      have := rkTx_lt (u := u) mv
      rw [decide_eq_false (Int.not_lt.mpr q)] at this
      obtain ⟨x, t, rfl⟩ := h3 u hu
      obtain ⟨y, t', rfl⟩ := h3 v hv
      show (!decide (y.cps.toList < x.cps.toList)) = true
      rw [← show decide ((txOfV (Value.str y t')).cps.toList < (txOfV (Value.str x t)).cps.toList) = decide (y.cps.toList < x.cps.toList) from rfl, ← this]; rfl
  rw [eys] at hS2
  have lo : ((sortTx xs).map V.str).length ≤ sizeLine := by
    rw [List.length_map, (sortTx_perm xs).length_eq, sizeLine_eq]; omega
  exact ⟨.ref r0, upd H r0 (.lst ((sortTx xs).map V.str)), I.laid (t' := s.toks) kp big ⟨lo, out.toList, e, vals_of_strs hS2, he⟩, rfl, q r0 (I.hok.fresh big)⟩
def asTxs : List D → Option (List Str)
  | [] => some []
  | .str x :: ds => (asTxs ds).bind fun xs => some (x :: xs)
  | _ => none
theorem asTxs_E : ∀ {ds : List D} {xs : List Str}, asTxs ds = some xs → ds = xs.map .str
  | [], xs, h => by cases h; rfl
  | d :: ds, xs, h => by
    unfold asTxs at h
    split at h
    · rename_i e; cases e
    · rename_i x ds' e
      cases e
      cases e2 : asTxs ds with
      | none => rw [e2] at h; cases h
      | some qs =>
        rw [e2] at h
        cases h
        rw [asTxs_E e2]; rfl
    · cases h
theorem asTxs_map : ∀ xs : List Str, asTxs (xs.map .str) = some xs
  | [] => rfl
  | x :: xs => by
    rw [List.map_cons]
    show (asTxs (xs.map .str)).bind _ = _
    rw [asTxs_map xs]; rfl
def sortTD : D → Option D
  | .lst ds => (asTxs ds).bind fun xs => if xs.length < 64 then some (.lst ((sortTx xs).map .str)) else none
  | .tup ds => (asTxs ds).bind fun xs => if xs.length < 64 then some (.lst ((sortTx xs).map .str)) else none
  | _ => none
theorem reps_txs {K : PySem.W.Frag} {F : Hp} : ∀ {xs : List Str} {vs : List V}, Reps K F vs (xs.map .str) → vs = xs.map V.str ∧ ∀ x ∈ xs, asc x = true
  | [], _, h => by cases h; exact ⟨rfl, fun _ m => by cases m⟩
  | x :: xs, _, h => by
    cases h with
    | cons a t =>
      obtain ⟨e1, e2⟩ := reps_txs t
      cases a with
      | str _ ha =>
        refine ⟨by rw [e1]; rfl, fun y m => ?_⟩
        rcases List.mem_cons.mp m with rfl | m
        · exact ha
        · exact e2 y m
theorem reps_mk {K : PySem.W.Frag} {F : Hp} : ∀ {xs : List Str}, (∀ x ∈ xs, asc x = true) → Reps K F (xs.map V.str) (xs.map .str)
  | [], _ => .nil
  | x :: xs, h => .cons (.str x (h x List.mem_cons_self)) (reps_mk fun y m => h y (List.mem_cons_of_mem _ m))
theorem s_sortT {K : PySem.W.Frag} : OpN K (.lst .leaf) (rSortTx K) (one sortTD) := by
  refine s_one fun F H x d z Q sm hx ef k => ?_
  have go : ∀ {es : List D} {vs : List V}, Reps K F vs es → ((asTxs es).bind fun xs => if xs.length < 64 then some (D.lst ((sortTx xs).map .str)) else none) = some z → ∃ xs : List Str, vs = xs.map V.str ∧ xs.length < 64 ∧ ∀ l, H l = none → Q (.ref l) (upd H l (.lst ((sortTx xs).map V.str))) := fun {es vs} r ef => by
    cases e1 : asTxs es with
    | none => rw [e1] at ef; cases ef
    | some xs =>
      rw [e1, Option.bind_some] at ef
      by_cases hl : xs.length < 64
      · rw [if_pos hl] at ef
        cases ef
        have ee := asTxs_E e1
        subst ee
        obtain ⟨e2, e3⟩ := reps_txs r
        refine ⟨xs, e2, hl, fun l nl => k.newL sm (reps_mk fun y m => e3 y ((sortTx_perm xs).mem_iff.mp m)) nl⟩
      · rw [if_neg hl] at ef; cases ef
  cases d with
  | lst es =>
    obtain ⟨p, vs, rfl, eH, r⟩ := hx.lstE sm
    obtain ⟨xs, e2, hl, kk⟩ := go r ef
    exact ⟨p, xs, rfl, .inl (.of (by rw [← e2]; exact eH)), hl, kk⟩
  | tup es =>
    obtain ⟨p, vs, rfl, tf, r⟩ := hx.tupE
    obtain ⟨xs, e2, hl, kk⟩ := go r ef
    exact ⟨p, xs, rfl, .inr (by rw [← e2]; exact (tf.mono sm).sq K), hl, kk⟩
  | _ => cases ef
section
variable {X : Cx} (K : PySem.W.Frag) (hK : X.K = K)
include hK
theorem k_sortT : CallR X (.builtin "sorted") (rSortTx K) := hK ▸ cr_sortTx
end
end VL
/-! V41: t[::-1] of a tuple. -/
namespace VL
open PySem PySem.Spec L2
section
variable {prog : Program} {w : World} {A : Around} {E : Value → Shared → Prop} {s : Shared}
theorem applied_back {sl : Addr} {n : Nat} {t : Tok} {Q : Int × Int × Nat → Shared → Prop} (hs : s.heap.IsSliceOf sl .none .none (.int (-1) t)) (h : Q ((n : Int) - 1, -1, n) s) : wpAny (model prog w) A (Builtin.Slice.sliceApplied (.ref sl) (pure (n : Int))) Q E s := by
  obtain ⟨os, hos, hcs, hds⟩ := id hs
  unfold Builtin.Slice.sliceApplied
  unfold Builtin.Slice.sliceFields
  refine wpAny_bind (wpAny_bind (wpAny_field hos hds (x := .none) rfl
    (wpAny_bind (wpAny_field hos hds (x := .none) rfl (wpAny_bind (wpAny_field hos hds (x := .int (-1) t) rfl (wpAny_pure ?_)))))))
  refine wpAny_bind (HT.slicePart_ (.int (-1) t) ?_)
  change wpAny _ _ (if ((-1 : Int) == 0) = true then _ else _) _ _ s
  rw [if_neg (by decide)]
  refine wpAny_bind (HT.slicePart_ .none
    (wpAny_bind (HT.slicePart_ .none (wpAny_bind (wpAny_pure ?_)))))
  have ea : Builtin.Slice.sliceAdjust none none (-1) (n : Int) = ((n : Int) - 1, -1) := by
    unfold Builtin.Slice.sliceAdjust
    simp
  change wpAny _ _ (match Builtin.Slice.sliceAdjust none none (-1) (n : Int) with | (lo, hi) => pure (lo, (-1 : Int), Builtin.Slice.slicePlaces lo hi (-1))) _ _ s
  rw [ea]
  change wpAny _ _ (pure ((n : Int) - 1, (-1 : Int), Builtin.Slice.slicePlaces ((n : Int) - 1) (-1) (-1))) _ _ s
  have ep : Builtin.Slice.slicePlaces ((n : Int) - 1) (-1) (-1) = n := by
    unfold Builtin.Slice.slicePlaces
    simp
    omega
  rw [ep]
  exact wpAny_pure h
theorem fm_congr {α β : Type} {f g : α → Option β} : ∀ {l : List α}, (∀ x ∈ l, f x = g x) → l.filterMap f = l.filterMap g
  | [], _ => rfl
  | x :: l, h => by
    rw [List.filterMap_cons, List.filterMap_cons, h x List.mem_cons_self, fm_congr (l := l) fun y m => h y (List.mem_cons_of_mem _ m)]
theorem pick_back (xs : Array Value) : ((List.range xs.size).filterMap fun (k : Nat) => xs[(((xs.size : Int) - 1) + (k : Int) * (-1)).toNat]?).toArray = xs.toList.reverse.toArray := by
  have e : ((List.range xs.size).filterMap fun (k : Nat) => xs[(((xs.size : Int) - 1) + (k : Int) * (-1)).toNat]?) = (List.range xs.size).filterMap fun (m : Nat) => (xs.toList.reverse.toArray)[((0 : Nat) : Int).toNat + m]? := by
    refine fm_congr fun k hk => ?_
    have hk' := List.mem_range.mp hk
    have i1 : (((xs.size : Int) - 1) + (k : Int) * (-1)).toNat = xs.size - 1 - k := by omega
    rw [i1]
    have : (xs.toList.reverse.toArray)[((0 : Nat) : Int).toNat + k]? = xs.toList.reverse[k]? := by simp
    rw [this, List.getElem?_reverse (by simpa using hk')]
    simp
  have g := HT.pick_gen xs.toList.reverse.toArray 0 xs.size
  have e2 : (fun (m : Nat) => (xs.toList.reverse.toArray)[(((0 : Nat) : Int) + (m : Int) * 1).toNat]?) = fun m => (xs.toList.reverse.toArray)[((0 : Nat) : Int).toNat + m]? := by
    funext m
    have : (((0 : Nat) : Int) + (m : Int) * 1).toNat = ((0 : Nat) : Int).toNat + m := by omega
    rw [this]
  rw [e2] at g
  rw [e, g]
  congr 1
  rw [List.drop_zero, List.toList_toArray, List.take_of_length_le]
  rw [List.length_reverse, Array.length_toList]
  exact Nat.le_refl _
open PyProof.Rows in
theorem getItem_back {t sl : Addr} {items : Array Value} {tk : Tok} {Q : Value → Shared → Prop} (ht : IsTup s.heap t items) (hs : s.heap.IsSliceOf sl .none .none (.int (-1) tk))
    (h : Q (.ref s.heap.objs.size) { s with heap := s.heap.push { cls := .type "tuple", data := .seq items.toList.reverse.toArray } }) (hsz : items.size ≤ sizeLine) : wpAny (model prog w) A (getItem (.ref t) (.ref sl)) Q E s := by
  have ok : sizeOk (.seq items.toList.reverse.toArray) := by
    show items.toList.reverse.toArray.size ≤ sizeLine
    rw [List.size_toArray, List.length_reverse, Array.length_toList]
    exact hsz
  obtain ⟨os, hos, hcs, hds⟩ := id hs
  have tsl : s.TypeIs (.ref sl) "slice" := ⟨os, hos, hcs⟩
  unfold getItem
  try with_reducible refine wpAny_holding ?_
  first | refine wpAny_bind (wpAny_pure ?_) | skip
  refine wpAny_bind
    (wpAny_sequenceKey ht.typeIs (by decide) ?_)
  refine wpAny_bind (wpAny_callSpecial?_slot (name := Str.ofString "__getitem__") ht.typeIs slot_tuple_getitem
    (wpAny_call_entry slot_tuple_getitem ht.typeIs entry_tuple_getitem ?_ (args_tuple_getitem _ _)))
  change wpAny _ _ (Builtin.Tuple.tupleItemsOf (.ref t) >>= _) _ _ s
  refine wpAny_bind (tupleItemsOf_ ht (wpAny_bind (wpAny_typeOf tsl ?_)))
  rw [if_pos (by decide)]
  refine wpAny_bind (applied_back hs ?_)
  change wpAny _ _ (if (((items.size : Int) - 1) == 0 && (-1 : Int) == 1 && items.size == items.size) = true then _ else _) _ _ s
  have no : ¬ ((((items.size : Int) - 1) == 0 && (-1 : Int) == 1 && items.size == items.size) = true) := by simp
  rw [if_neg no, pick_back]
  first
    | exact wpAny_bind (m := Builtin.Tuple.tupleExact _)
        (wpAny_newObj_type (wpAny_pure ⟨_, rfl, wpAny_pure h⟩) ok)
    | exact wpAny_bind (m := Builtin.Tuple.tupleExact _)
        (wpAny_newObj_type (wpAny_bind (wpAny_pure (wpAny_pure ⟨_, rfl, wpAny_pure h⟩))) ok)
    | exact wpAny_bind (wpAny_bind (m := Builtin.Tuple.tupleExact _)
        (wpAny_newObj_type (wpAny_pure (wpAny_pure ⟨_, rfl, wpAny_pure h⟩)) ok))
    | exact wpAny_bind (wpAny_bind (m := Builtin.Tuple.tupleExact _)
        (wpAny_newObj_type (wpAny_pure ⟨_, rfl, wpAny_pure h⟩) ok))
end
abbrev rBack (K : PySem.W.Frag) : R2 := fun x y H Q => ∃ a xs, x = .ref a ∧ y = .int (-1) ∧ SqT K H a xs ∧ ∀ p us, H p = none → Q (.ref p) (upd H p (tupC us xs.reverse))
section
variable {X : Cx} {a c : Expr} {ta tc : TE} {pos p2 : Pos}
theorem pe_back (ha : PE X a ta) (hc : PE X c tc) : PE X (.Subscript a (.Slice none none (some c) p2) pos) (tOp (rBack X.K) ta tc) := by
  refine ⟨fun pins s σ H Q I h => PyProof.Rows.Subscript_ (thn (ha.run pins s σ H _ I h) fun v s1 ⟨x, H1, I1, r1, q1⟩ => ?_)⟩
  refine wpAny_Slice ?_
  rw [evalPart_none]
  refine wpAny_pure (wpAny_pure ?_)
  rw [evalPart_some]
  refine thn (hc.run pins s1 σ H1 _ I1 q1) fun u s2 ⟨y, H2, I2, r2, q2⟩ => ?_
  obtain ⟨l, xs, rfl, rfl, hs, q⟩ := q2
  cases r1
  obtain ⟨t, rfl⟩ := r2
  have I3 : Inv X pins σ H2 { s2 with heap := s2.heap.push { cls := .type "slice", data := .fields #[.none, .none, .int (-1) t] } } := I2.kept (t' := s2.toks) fun b ob q => Heap.get?_push_of_some _ q
  obtain ⟨its, r, ht, hz⟩ := I3.tuple hs
  have hlen := r.length
  refine PyProof.Rows.tail_any (ops := [.ref l, .ref s2.heap.objs.size]) ht.typeIs PyProof.Rows.slot_tuple_getitem.lookup ?_ (by with_unfolding_all rfl)
  refine getItem_back ht (Heap.IsSliceOf.new ..) ?_ (by rw [List.size_toArray, ← hlen]; exact hz)
  rw [List.toList_toArray]
  have hf := I3.hok.fresh (Nat.le_refl _)
  exact ⟨.ref _, _, I3.laid (t' := s2.toks) (o := tupC its.reverse xs.reverse) (fun b ob q => Heap.get?_push_of_some _ q) (Nat.le_refl _) (tupC_ok (by rw [List.length_reverse]; exact hz) r.reverse (Heap.get?_push_size _ rfl)), rfl, q _ its.reverse hf⟩
end
def backD : D → D → Option D
  | .tup ds, .int i => if i = -1 then some (.tup ds.reverse) else none
  | _, _ => none
theorem s_back {K : PySem.W.Frag} : Op2 K .leaf (rBack K) backD := by
  intro F H x y d e z Q sm h k q ok
  unfold backD at q
  split at q
  · rename_i ds i
    obtain ⟨p, vs, rfl, tf, r⟩ := h.tupE
    have ei := k.intE
    subst ei
    split at q
    · rename_i e1
      cases q
      subst e1
      exact ⟨p, vs, rfl, rfl, (tf.mono sm).sq K, fun l us n => ok.newT sm r.reverse n⟩
    · cases q
  · cases q
theorem ev_back {X : Cx} {ks : List Sh} {W : WX} {a c : Expr} {ta tc : TE} {mo mp : MO} {pos p2 : Pos} (K : PySem.W.Frag) (hK : X.K = K) (ha : EO X ks W a ta mo) (hc : EO X ks W c tc mp) :
    EV X ks W (.Subscript a (.Slice none none (some c) p2) pos) .leaf (tOp (rBack K) ta tc) (mOp2 backD mo mp) := by
  subst hK
  exact ⟨pe_back ha.pe hc.pe, snd_op2 (b := bd X ks W) s_back ha.sd hc.sd⟩
end VL
set_option maxHeartbeats 4000000
/-! V42: dict(zip(a, b)), each of a and b a list or a tuple (the flag tells: true a tuple). -/
namespace VL
open PySem PySem.Spec L2
def IsIt : Bool → Heap → Addr → Addr → Nat → Prop
  | true, h, it, l, i => h.IsTupleIter it l i
  | false, h, it, l, i => h.IsListIter it l i
def IsSq : Bool → Heap → Addr → Array Value → Prop
  | true, h, l, xs => h.IsTuple l xs
  | false, h, l, xs => h.IsList l xs
theorem IsIt.up {b : Bool} {h h' : Heap} {it l : Addr} {i : Nat} (x : IsIt b h it l i) (k : ∀ o, h.get? it = some o → h'.get? it = some o) : IsIt b h' it l i := by
  cases b
  · exact Heap.IsListIter.at x k
  · exact Heap.IsTupleIter.at x k
theorem IsSq.up {b : Bool} {h h' : Heap} {l : Addr} {xs : Array Value} (x : IsSq b h l xs) (k : ∀ o, h.get? l = some o → h'.get? l = some o) : IsSq b h' l xs := by
  cases b
  · exact Heap.IsList.at x k
  · exact Heap.IsTuple.at x k
theorem IsIt.ob {b : Bool} {h : Heap} {it l : Addr} {i : Nat} (x : IsIt b h it l i) : ∃ o, h.get? it = some o := by
  cases b
  · obtain ⟨o, e, _⟩ := x; exact ⟨o, e⟩
  · obtain ⟨o, e, _⟩ := x; exact ⟨o, e⟩
theorem IsSq.ob {b : Bool} {h : Heap} {l : Addr} {xs : Array Value} (x : IsSq b h l xs) : ∃ o, h.get? l = some o := by
  cases b
  · obtain ⟨o, e, _⟩ := x; exact ⟨o, e⟩
  · obtain ⟨o, e, _⟩ := x; exact ⟨o, e⟩
abbrev KeepB (x : Addr) (h h' : Heap) : Prop := ∀ c o, c ≠ x → h.get? c = some o → h'.get? c = some o
section
variable {prog : Program} {w : World} {A : Around} {E : Value → Shared → Prop} {s : Shared}
theorem nx_item {b : Bool} {it l : Addr} {i : Nat} {xs : Array Value} {x : Value} {Q : Value → Shared → Prop} (hit : IsIt b s.heap it l i) (hl : IsSq b s.heap l xs) (hx : xs[i]? = some x)
    (hQ : ∀ h', IsIt b h' it l (i + 1) → Heap.SameBut it s.heap h' → Q x { s with heap := h' }) : wpAny (model prog w) A (Builtin.SmallTypes.nextOf (.ref it)) Q E s := by
  cases b
  · exact wpAny_nextOf_list_item hit hl hx hQ
  · exact RZ.nextOf_tuple_item hit hl hx hQ
theorem nx_end {b : Bool} {it l : Addr} {i : Nat} {xs : Array Value} {Q : Value → Shared → Prop} (hh : A.handled = none) (hit : IsIt b s.heap it l i) (hl : IsSq b s.heap l xs) (hx : xs[i]? = none)
    (hE : ∀ h' e, Heap.ExtBut it s.heap h' → (∃ o, h'.get? e = some o ∧ o.cls = .type "StopIteration") → E (.ref e) { s with heap := h' }) : wpAny (model prog w) A (Builtin.SmallTypes.nextOf (.ref it)) Q E s := by
  cases b
  · exact wpAny_nextOf_list_end hh hit hl hx hE
  · exact RZ.nextOf_tuple_end hh hit hl hx hE
variable {b1 b2 : Bool} {z TI TO i1 i2 l1 l2 : Addr} {k1 k2 : Nat} {xs ys : Array Value} {x y a b : Value}
theorem zm_item {Q : Value → Shared → Prop} (D : ZipApart z TI TO i1 i2 l1 l2)
    (hz : IsZip s.heap z TI TO .none) (hTI : IsPair s.heap TI (.ref i1) (.ref i2)) (hTO : IsPair s.heap TO a b)
    (h1 : IsIt b1 s.heap i1 l1 k1) (h2 : IsIt b2 s.heap i2 l2 k2) (hl1 : IsSq b1 s.heap l1 xs) (hl2 : IsSq b2 s.heap l2 ys) (hx : xs[k1]? = some x) (hy : ys[k2]? = some y)
    (hQ : ∀ h', IsZip h' z TI TO (rawInt s.heap.objs.size) → IsIt b1 h' i1 l1 (k1 + 1) → IsIt b2 h' i2 l2 (k2 + 1) → IsPair h' s.heap.objs.size x y →
      (∀ c o, c ≠ z → c ≠ TO → c ≠ i1 → c ≠ i2 → s.heap.get? c = some o → h'.get? c = some o) → Q (.ref s.heap.objs.size) { s with heap := h' }) :
    wpAny (model prog w) A (Builtin.«zip.__next__» ⟨[.ref z], []⟩) (fun fin s' => ∃ v, fin = .done (.ret v) ∧ Q v s') E s := by
  show wpAny _ _ (field (.ref z) 2 >>= _) _ _ _
  refine wpAny_bind (wpAny_field hz rfl (x := .bool false) rfl ?_)
  show wpAny _ _ (field (.ref z) 3 >>= _) _ _ _
  refine wpAny_bind (wpAny_field hz rfl (x := .ref TI) rfl ?_)
  refine wpAny_bind (wpAny_seqItems hTI rfl ?_)
  show wpAny _ _ (Builtin.SmallTypes.ownedTupleIsFree (.ref z) >>= _) _ _ _
  refine wpAny_bind ?_
  unfold Builtin.SmallTypes.ownedTupleIsFree
  refine wpAny_bind (wpAny_field hz rfl (x := .none) rfl (wpAny_pure ?_))
  simp only [if_true]
  refine wpAny_bind (wpAny_rule ?_)
  refine wpAny_bind (wpAny_field hz rfl (x := .ref TO) rfl ?_)
  refine wpAny_bind (wpAny_setField_rec hz (by simp) fun h₁ hz₁ hs₁ => ?_)
  replace hz₁ : IsZip h₁ z TI TO .ellipsis := hz₁
  refine wpAny_bind ?_
  simp only [List.zipIdx_cons, List.zipIdx_nil, List.forIn_cons, List.forIn_nil]
  have u1 : KeepB z s.heap h₁ := fun c o n e => hs₁.extBut c o n e
  refine wpAny_bind (wpAny_bind (wpAny_onRaise ?_))
  show wpAny _ _ (Builtin.SmallTypes.nextOf (.ref i1) >>= _) _ _ _
  refine wpAny_bind (nx_item (s := { s with heap := h₁ }) (h1.up fun o e => u1 _ o D.i1z e) (hl1.up fun o e => u1 _ o D.l1z e) hx fun h₂ h1₂ hs₂ => wpAny_pure ?_)
  have u2 : KeepB i1 h₁ h₂ := fun c o n e => hs₂.extBut c o n e
  have hTO₂ : IsPair h₂ TO a b := u2 _ _ D.TOi1 (u1 _ _ D.TOz hTO)
  refine wpAny_bind (wpAny_seqItems hTO₂ rfl ?_)
  refine wpAny_bind (wpAny_updateSeq_pair hTO₂ fun h₃ hTO₃ hs₃ => ?_)
  replace hTO₃ : IsPair h₃ TO x b := hTO₃
  have u3 : KeepB TO h₂ h₃ := fun c o n e => hs₃.extBut c o n e
  refine wpAny_bind (wpAny_letGo (wpAny_pure ?_))
  refine wpAny_bind (wpAny_bind (wpAny_onRaise ?_))
  show wpAny _ _ (Builtin.SmallTypes.nextOf (.ref i2) >>= _) _ _ _
  refine wpAny_bind (nx_item (s := { s with heap := h₃ }) (h2.up fun o e => u3 _ o D.TOi2.symm (u2 _ o D.i12.symm (u1 _ o D.i2z e))) (hl2.up fun o e => u3 _ o D.l2TO (u2 _ o D.l2i1 (u1 _ o D.l2z e))) hy fun h₄ h2₄ hs₄ => wpAny_pure ?_)
  have u4 : KeepB i2 h₃ h₄ := fun c o n e => hs₄.extBut c o n e
  have hTO₄ : IsPair h₄ TO x b := u4 _ _ D.TOi2 hTO₃
  refine wpAny_bind (wpAny_seqItems hTO₄ rfl ?_)
  refine wpAny_bind (wpAny_updateSeq_pair hTO₄ fun h₅ hTO₅ hs₅ => ?_)
  replace hTO₅ : IsPair h₅ TO x y := hTO₅
  have u5 : KeepB TO h₄ h₅ := fun c o n e => hs₅.extBut c o n e
  refine wpAny_bind (wpAny_letGo (wpAny_pure (wpAny_pure ?_)))
  refine wpAny_bind (wpAny_seqItems hTO₅ rfl ?_)
  refine wpAny_bind (wpAny_newTuple ?_)
  have hsz : h₅.objs.size = s.heap.objs.size := by rw [hs₅.1, hs₄.1, hs₃.1, hs₂.1, hs₁.1]
  have hz₅ : IsZip h₅ z TI TO .ellipsis := u5 _ _ D.TOz.symm (u4 _ _ D.i2z.symm (u3 _ _ D.TOz.symm (u2 _ _ D.i1z.symm hz₁)))
  have k5 : ∀ c o, c ≠ z → c ≠ TO → c ≠ i1 → c ≠ i2 → s.heap.get? c = some o → h₅.get? c = some o := fun c o c1 c2 c3 c4 e => u5 _ _ c2 (u4 _ _ c4 (u3 _ _ c2 (u2 _ _ c3 (u1 _ _ c1 e))))
  have h1₅ : IsIt b1 h₅ i1 l1 (k1 + 1) := h1₂.up fun o e => u5 _ o D.TOi1.symm (u4 _ o D.i12 (u3 _ o D.TOi1.symm e))
  have h2₅ : IsIt b2 h₅ i2 l2 (k2 + 1) := h2₄.up fun o e => u5 _ o D.TOi2.symm e
  have hzlt : z < h₅.objs.size := Heap.lt_size hz₅
  show wpAny _ _ (Builtin.SmallTypes.ownedTupleHandOut (.ref z) (.ref h₅.objs.size) >>= _) _ _ _
  refine wpAny_bind ?_
  unfold Builtin.SmallTypes.ownedTupleHandOut
  have hz₆ : IsZip (h₅.push { cls := .type "tuple", data := .seq #[x, y] }) z TI TO .ellipsis := Heap.get?_push_of_some _ hz₅
  refine wpAny_bind (wpAny_setField_rec hz₆ (by simp) fun h₇ hz₇ hs₇ => ?_)
  replace hz₇ : IsZip h₇ z TI TO (rawInt h₅.objs.size) := hz₇
  refine wpAny_setField_rec hz₇ (by simp) fun h₈ hz₈ hs₈ => ?_
  replace hz₈ : IsZip h₈ z TI TO (rawInt h₅.objs.size) := hz₈
  have up : ∀ c o, c ≠ z → h₅.get? c = some o → h₈.get? c = some o := fun c o c1 e => hs₈.extBut _ _ c1 (hs₇.extBut _ _ c1 (Heap.get?_push_of_some _ e))
  have hT₈ : IsPair h₈ h₅.objs.size x y := hs₈.extBut _ _ (Nat.ne_of_gt hzlt) (hs₇.extBut _ _ (Nat.ne_of_gt hzlt) (Heap.get?_push_size _ rfl))
  rw [hsz] at hz₈ hT₈
  refine wpAny_pure ⟨_, rfl, ?_⟩
  show Q (.ref h₅.objs.size) _
  rw [hsz]
  exact hQ h₈ hz₈ (h1₅.up fun o e => up _ o D.i1z e) (h2₅.up fun o e => up _ o D.i2z e) hT₈ fun c o c1 c2 c3 c4 e => up c o c1 (k5 c o c1 c2 c3 c4 e)
theorem zm_end {Q : PySem.Fin → Shared → Prop} (hh : A.handled = none) (D : ZipApart z TI TO i1 i2 l1 l2)
    (hz : IsZip s.heap z TI TO .none) (hTI : IsPair s.heap TI (.ref i1) (.ref i2)) (hTO : IsPair s.heap TO a b)
    (h1 : IsIt b1 s.heap i1 l1 k1) (h2 : IsIt b2 s.heap i2 l2 k2) (hl1 : IsSq b1 s.heap l1 xs) (hl2 : IsSq b2 s.heap l2 ys) (hend : xs[k1]? = none ∨ ys[k2]? = none)
    (hE : ∀ h' e, (∀ c o, c ≠ z → c ≠ TO → c ≠ i1 → c ≠ i2 → s.heap.get? c = some o → h'.get? c = some o) → (∃ o, h'.get? e = some o ∧ o.cls = .type "StopIteration") → E (.ref e) { s with heap := h' }) :
    wpAny (model prog w) A (Builtin.«zip.__next__» ⟨[.ref z], []⟩) Q E s := by
  show wpAny _ _ (field (.ref z) 2 >>= _) _ _ _
  refine wpAny_bind (wpAny_field hz rfl (x := .bool false) rfl ?_)
  show wpAny _ _ (field (.ref z) 3 >>= _) _ _ _
  refine wpAny_bind (wpAny_field hz rfl (x := .ref TI) rfl ?_)
  refine wpAny_bind (wpAny_seqItems hTI rfl ?_)
  show wpAny _ _ (Builtin.SmallTypes.ownedTupleIsFree (.ref z) >>= _) _ _ _
  refine wpAny_bind ?_
  unfold Builtin.SmallTypes.ownedTupleIsFree
  refine wpAny_bind (wpAny_field hz rfl (x := .none) rfl (wpAny_pure ?_))
  simp only [if_true]
  refine wpAny_bind (wpAny_rule ?_)
  refine wpAny_bind (wpAny_field hz rfl (x := .ref TO) rfl ?_)
  refine wpAny_bind (wpAny_setField_rec hz (by simp) fun h₁ hz₁ hs₁ => ?_)
  replace hz₁ : IsZip h₁ z TI TO .ellipsis := hz₁
  have u1 : KeepB z s.heap h₁ := fun c o n e => hs₁.extBut c o n e
  refine wpAny_bind ?_
  simp only [List.zipIdx_cons, List.zipIdx_nil, List.forIn_cons, List.forIn_nil]
  refine wpAny_bind (wpAny_bind (wpAny_onRaise ?_))
  show wpAny _ _ (Builtin.SmallTypes.nextOf (.ref i1) >>= _) _ _ _
  cases hx : xs[k1]? with
  | none =>
    refine wpAny_bind (nx_end (s := { s with heap := h₁ }) hh (h1.up fun o e => u1 _ o D.i1z e) (hl1.up fun o e => u1 _ o D.l1z e) hx fun h₂ e hs₂ he => ?_)
    obtain ⟨oe, hoe, hce⟩ := he
    have hz₂ : IsZip h₂ z TI TO .ellipsis := hs₂ _ _ D.i1z.symm hz₁
    have hez : e ≠ z := fun x => by subst x; rw [hz₂] at hoe; cases hoe; simp at hce
    refine wpAny_setField_rec hz₂ (by simp) fun h₃ _ hs₃ => hE h₃ e (fun c o c1 _ c3 _ x => hs₃.extBut _ _ c1 (hs₂ _ _ c3 (u1 _ _ c1 x))) ⟨oe, hs₃.extBut _ _ hez hoe, hce⟩
  | some x =>
    have hy : ys[k2]? = none := by rcases hend with h | h; rw [hx] at h; cases h; exact h
    refine wpAny_bind (nx_item (s := { s with heap := h₁ }) (h1.up fun o e => u1 _ o D.i1z e) (hl1.up fun o e => u1 _ o D.l1z e) hx fun h₂ h1₂ hs₂ => wpAny_pure ?_)
    have u2 : KeepB i1 h₁ h₂ := fun c o n e => hs₂.extBut c o n e
    have hTO₂ : IsPair h₂ TO a b := u2 _ _ D.TOi1 (u1 _ _ D.TOz hTO)
    refine wpAny_bind (wpAny_seqItems hTO₂ rfl ?_)
    refine wpAny_bind (wpAny_updateSeq_pair hTO₂ fun h₃ hTO₃ hs₃ => ?_)
    have u3 : KeepB TO h₂ h₃ := fun c o n e => hs₃.extBut c o n e
    refine wpAny_bind (wpAny_letGo (wpAny_pure ?_))
    refine wpAny_bind (wpAny_bind (wpAny_onRaise ?_))
    show wpAny _ _ (Builtin.SmallTypes.nextOf (.ref i2) >>= _) _ _ _
    refine wpAny_bind (nx_end (s := { s with heap := h₃ }) hh (h2.up fun o e => u3 _ o D.TOi2.symm (u2 _ o D.i12.symm (u1 _ o D.i2z e))) (hl2.up fun o e => u3 _ o D.l2TO (u2 _ o D.l2i1 (u1 _ o D.l2z e))) hy fun h₄ e hs₄ he => ?_)
    obtain ⟨oe, hoe, hce⟩ := he
    have hz₄ : IsZip h₄ z TI TO .ellipsis := hs₄ _ _ D.i2z.symm (u3 _ _ D.TOz.symm (u2 _ _ D.i1z.symm hz₁))
    have hez : e ≠ z := fun x => by subst x; rw [hz₄] at hoe; cases hoe; simp at hce
    refine wpAny_setField_rec hz₄ (by simp) fun h₅ _ hs₅ => hE h₅ e (fun c o c1 c2 c3 c4 x => hs₅.extBut _ _ c1 (hs₄ _ _ c4 (u3 _ _ c2 (u2 _ _ c3 (u1 _ _ c1 x))))) ⟨oe, hs₅.extBut _ _ hez hoe, hce⟩
variable {T : Addr} {f : Bool} {oT : Obj}
theorem zh_item {Q : Value → Shared → Prop} (D : ZipApart z TI TO i1 i2 l1 l2)
    (hz : IsZipHeld s.heap z TI TO T f) (hT : s.heap.get? T = some oT) (hTI : IsPair s.heap TI (.ref i1) (.ref i2))
    (h1 : IsIt b1 s.heap i1 l1 k1) (h2 : IsIt b2 s.heap i2 l2 k2) (hl1 : IsSq b1 s.heap l1 xs) (hl2 : IsSq b2 s.heap l2 ys) (hx : xs[k1]? = some x) (hy : ys[k2]? = some y)
    (hQ : ∀ h', IsZipHeld h' z TI TO T true → IsIt b1 h' i1 l1 (k1 + 1) → IsIt b2 h' i2 l2 (k2 + 1) → IsPair h' s.heap.objs.size x y →
      (∀ c o, c ≠ z → c ≠ i1 → c ≠ i2 → s.heap.get? c = some o → h'.get? c = some o) → Q (.ref s.heap.objs.size) { s with heap := h' }) :
    wpAny (model prog w) A (Builtin.«zip.__next__» ⟨[.ref z], []⟩) (fun fin s' => ∃ v, fin = .done (.ret v) ∧ Q v s') E s := by
  show wpAny _ _ (field (.ref z) 2 >>= _) _ _ _
  refine wpAny_bind (wpAny_field hz rfl (x := .bool false) rfl ?_)
  show wpAny _ _ (field (.ref z) 3 >>= _) _ _ _
  refine wpAny_bind (wpAny_field hz rfl (x := .ref TI) rfl ?_)
  refine wpAny_bind (wpAny_seqItems hTI rfl ?_)
  show wpAny _ _ (Builtin.SmallTypes.ownedTupleIsFree (.ref z) >>= _) _ _ _
  refine wpAny_bind (wpAny_tupleHeld_zip hz hT fun h₁ hz₁ hs₁ => ?_)
  have u1 : KeepB z s.heap h₁ := fun c o n e => hs₁.extBut c o n e
  simp only [Bool.false_eq_true, if_false]
  refine wpAny_bind ?_
  rw [← Array.forIn_toList]
  simp only [List.forIn_cons, List.forIn_nil]
  refine wpAny_bind (wpAny_bind (wpAny_holding ?_))
  show wpAny _ _ (Builtin.SmallTypes.nextOf (.ref i1) >>= _) _ _ _
  refine wpAny_bind (nx_item (s := { s with heap := h₁ }) (h1.up fun o e => u1 _ o D.i1z e) (hl1.up fun o e => u1 _ o D.l1z e) hx fun h₂ h1₂ hs₂ => wpAny_pure ?_)
  have u2 : KeepB i1 h₁ h₂ := fun c o n e => hs₂.extBut c o n e
  refine wpAny_pure ?_
  refine wpAny_bind (wpAny_bind (wpAny_holding ?_))
  show wpAny _ _ (Builtin.SmallTypes.nextOf (.ref i2) >>= _) _ _ _
  refine wpAny_bind (nx_item (s := { s with heap := h₂ }) (h2.up fun o e => u2 _ o D.i12.symm (u1 _ o D.i2z e)) (hl2.up fun o e => u2 _ o D.l2i1 (u1 _ o D.l2z e)) hy fun h₃ h2₃ hs₃ => wpAny_pure ?_)
  have u3 : KeepB i2 h₂ h₃ := fun c o n e => hs₃.extBut c o n e
  refine wpAny_pure (wpAny_pure ?_)
  show wpAny _ _ (newTuple [x, y] >>= _) _ _ _
  refine wpAny_bind (wpAny_newTuple ?_)
  have hsz : h₃.objs.size = s.heap.objs.size := by rw [hs₃.1, hs₂.1, hs₁.1]
  have hz₃ : IsZipHeld h₃ z TI TO T true := u3 _ _ D.i2z.symm (u2 _ _ D.i1z.symm hz₁)
  have hk : ∀ c o, c ≠ z → c ≠ i1 → c ≠ i2 → s.heap.get? c = some o → h₃.get? c = some o := fun c o c1 c2 c3 e => u3 _ _ c3 (u2 _ _ c2 (u1 _ _ c1 e))
  have h1₃ : IsIt b1 h₃ i1 l1 (k1 + 1) := h1₂.up fun o e => u3 _ o D.i12 e
  refine wpAny_pure ⟨_, rfl, ?_⟩
  show Q (.ref h₃.objs.size) _
  have hp : IsPair (h₃.push { cls := .type "tuple", data := .seq #[x, y] }) h₃.objs.size x y := Heap.get?_push_size _ rfl
  rw [hsz] at hp ⊢
  exact hQ _ (Heap.get?_push_of_some _ hz₃) (h1₃.up fun o e => Heap.get?_push_of_some _ e) (h2₃.up fun o e => Heap.get?_push_of_some _ e) hp fun c o c1 c2 c3 e => Heap.get?_push_of_some _ (hk c o c1 c2 c3 e)
theorem zh_end {Q : PySem.Fin → Shared → Prop} (hh : A.handled = none) (D : ZipApart z TI TO i1 i2 l1 l2)
    (hz : IsZipHeld s.heap z TI TO T f) (hT : s.heap.get? T = some oT) (hTI : IsPair s.heap TI (.ref i1) (.ref i2))
    (h1 : IsIt b1 s.heap i1 l1 k1) (h2 : IsIt b2 s.heap i2 l2 k2) (hl1 : IsSq b1 s.heap l1 xs) (hl2 : IsSq b2 s.heap l2 ys) (hend : xs[k1]? = none ∨ ys[k2]? = none)
    (hE : ∀ h' e, (∀ c o, c ≠ z → c ≠ i1 → c ≠ i2 → s.heap.get? c = some o → h'.get? c = some o) → (∃ o, h'.get? e = some o ∧ o.cls = .type "StopIteration") → E (.ref e) { s with heap := h' }) :
    wpAny (model prog w) A (Builtin.«zip.__next__» ⟨[.ref z], []⟩) Q E s := by
  show wpAny _ _ (field (.ref z) 2 >>= _) _ _ _
  refine wpAny_bind (wpAny_field hz rfl (x := .bool false) rfl ?_)
  show wpAny _ _ (field (.ref z) 3 >>= _) _ _ _
  refine wpAny_bind (wpAny_field hz rfl (x := .ref TI) rfl ?_)
  refine wpAny_bind (wpAny_seqItems hTI rfl ?_)
  show wpAny _ _ (Builtin.SmallTypes.ownedTupleIsFree (.ref z) >>= _) _ _ _
  refine wpAny_bind (wpAny_tupleHeld_zip hz hT fun h₁ hz₁ hs₁ => ?_)
  have u1 : KeepB z s.heap h₁ := fun c o n e => hs₁.extBut c o n e
  simp only [Bool.false_eq_true, if_false]
  refine wpAny_bind ?_
  rw [← Array.forIn_toList]
  simp only [List.forIn_cons, List.forIn_nil]
  refine wpAny_bind (wpAny_bind (wpAny_holding ?_))
  show wpAny _ _ (Builtin.SmallTypes.nextOf (.ref i1) >>= _) _ _ _
  cases hx : xs[k1]? with
  | none =>
    refine wpAny_bind (nx_end (s := { s with heap := h₁ }) hh (h1.up fun o e => u1 _ o D.i1z e) (hl1.up fun o e => u1 _ o D.l1z e) hx fun h₂ e hs₂ he => ?_)
    exact hE h₂ e (fun c o c1 c2 _ x => hs₂ _ _ c2 (u1 _ _ c1 x)) he
  | some x =>
    have hy : ys[k2]? = none := by rcases hend with h | h; rw [hx] at h; cases h; exact h
    refine wpAny_bind (nx_item (s := { s with heap := h₁ }) (h1.up fun o e => u1 _ o D.i1z e) (hl1.up fun o e => u1 _ o D.l1z e) hx fun h₂ h1₂ hs₂ => wpAny_pure ?_)
    have u2 : KeepB i1 h₁ h₂ := fun c o n e => hs₂.extBut c o n e
    refine wpAny_pure ?_
    refine wpAny_bind (wpAny_bind (wpAny_holding ?_))
    show wpAny _ _ (Builtin.SmallTypes.nextOf (.ref i2) >>= _) _ _ _
    refine wpAny_bind (nx_end (s := { s with heap := h₂ }) hh (h2.up fun o e => u2 _ o D.i12.symm (u1 _ o D.i2z e)) (hl2.up fun o e => u2 _ o D.l2i1 (u1 _ o D.l2z e)) hy fun h₃ e hs₃ he => ?_)
    exact hE h₃ e (fun c o c1 c2 c3 x => hs₃ _ _ c3 (u2 _ _ c2 (u1 _ _ c1 x))) he
end
end VL
set_option maxHeartbeats 4000000
/-! V43: dict(zip(a, b)), the walk and the rule. -/
namespace VL
open PySem PySem.Spec L2
section
variable {prog : Program} {w : World} {A : Around} {E : Value → Shared → Prop} {s : Shared}
variable {b1 b2 : Bool} {z TI TO i1 i2 l1 l2 : Addr} {k1 k2 : Nat} {xs ys : Array Value} {x y a b : Value}
theorem zn_item {Q : Option Value → Shared → Prop} (D : ZipApart z TI TO i1 i2 l1 l2)
    (hz : IsZip s.heap z TI TO .none) (hTI : IsPair s.heap TI (.ref i1) (.ref i2)) (hTO : IsPair s.heap TO a b)
    (h1 : IsIt b1 s.heap i1 l1 k1) (h2 : IsIt b2 s.heap i2 l2 k2) (hl1 : IsSq b1 s.heap l1 xs) (hl2 : IsSq b2 s.heap l2 ys) (hx : xs[k1]? = some x) (hy : ys[k2]? = some y)
    (hQ : ∀ h', IsZip h' z TI TO (rawInt s.heap.objs.size) → IsIt b1 h' i1 l1 (k1 + 1) → IsIt b2 h' i2 l2 (k2 + 1) → IsPair h' s.heap.objs.size x y →
      (∀ c o, c ≠ z → c ≠ TO → c ≠ i1 → c ≠ i2 → s.heap.get? c = some o → h'.get? c = some o) → Q (some (.ref s.heap.objs.size)) { s with heap := h' }) :
    wpAny (model prog w) A (pyNext (.ref z)) Q E s := by
  have hT : s.TypeIs (.ref z) "zip" := ⟨_, hz, rfl⟩
  unfold pyNext
  refine wpAny_bind (wpAny_attempt (wpAny_callSpecial?_slot (name := Str.ofString "__next__") hT F.slot_zip_next (wpAny_call_entry F.slot_zip_next hT F.entry_zip_next ?_ (F.args_zip_next_1 _))))
  exact zm_item D hz hTI hTO h1 h2 hl1 hl2 hx hy fun h' a1 a2 a3 a4 a5 => wpAny_pure (hQ h' a1 a2 a3 a4 a5)
theorem zn_end {Q : Option Value → Shared → Prop} (hh : A.handled = none) (D : ZipApart z TI TO i1 i2 l1 l2)
    (hz : IsZip s.heap z TI TO .none) (hTI : IsPair s.heap TI (.ref i1) (.ref i2)) (hTO : IsPair s.heap TO a b)
    (h1 : IsIt b1 s.heap i1 l1 k1) (h2 : IsIt b2 s.heap i2 l2 k2) (hl1 : IsSq b1 s.heap l1 xs) (hl2 : IsSq b2 s.heap l2 ys) (hend : xs[k1]? = none ∨ ys[k2]? = none)
    (hQ : ∀ h', (∀ c o, c ≠ z → c ≠ TO → c ≠ i1 → c ≠ i2 → s.heap.get? c = some o → h'.get? c = some o) → Q none { s with heap := h' }) : wpAny (model prog w) A (pyNext (.ref z)) Q E s := by
  have hT : s.TypeIs (.ref z) "zip" := ⟨_, hz, rfl⟩
  unfold pyNext
  refine wpAny_bind (wpAny_attempt (wpAny_callSpecial?_slot (name := Str.ofString "__next__") hT F.slot_zip_next (wpAny_call_entry F.slot_zip_next hT F.entry_zip_next ?_ (F.args_zip_next_1 _))))
  refine zm_end hh D hz hTI hTO h1 h2 hl1 hl2 hend fun h' e hk he => ?_
  obtain ⟨o, ho, hc⟩ := he
  exact wpAny_bind (wpAny_isInstance (T := "StopIteration") (b := true) ⟨o, ho, hc⟩ isSubtype_stop (wpAny_pure (hQ _ hk)))
variable {T : Addr} {f : Bool} {oT : Obj}
theorem zhn_item {Q : Option Value → Shared → Prop} (D : ZipApart z TI TO i1 i2 l1 l2)
    (hz : IsZipHeld s.heap z TI TO T f) (hT : s.heap.get? T = some oT) (hTI : IsPair s.heap TI (.ref i1) (.ref i2))
    (h1 : IsIt b1 s.heap i1 l1 k1) (h2 : IsIt b2 s.heap i2 l2 k2) (hl1 : IsSq b1 s.heap l1 xs) (hl2 : IsSq b2 s.heap l2 ys) (hx : xs[k1]? = some x) (hy : ys[k2]? = some y)
    (hQ : ∀ h', IsZipHeld h' z TI TO T true → IsIt b1 h' i1 l1 (k1 + 1) → IsIt b2 h' i2 l2 (k2 + 1) → IsPair h' s.heap.objs.size x y →
      (∀ c o, c ≠ z → c ≠ i1 → c ≠ i2 → s.heap.get? c = some o → h'.get? c = some o) → Q (some (.ref s.heap.objs.size)) { s with heap := h' }) :
    wpAny (model prog w) A (pyNext (.ref z)) Q E s := by
  have hTy : s.TypeIs (.ref z) "zip" := ⟨_, hz, rfl⟩
  unfold pyNext
  refine wpAny_bind (wpAny_attempt (wpAny_callSpecial?_slot (name := Str.ofString "__next__") hTy F.slot_zip_next (wpAny_call_entry F.slot_zip_next hTy F.entry_zip_next ?_ (F.args_zip_next_1 _))))
  exact zh_item D hz hT hTI h1 h2 hl1 hl2 hx hy fun h' a1 a2 a3 a4 a5 => wpAny_pure (hQ h' a1 a2 a3 a4 a5)
theorem zhn_end {Q : Option Value → Shared → Prop} (hh : A.handled = none) (D : ZipApart z TI TO i1 i2 l1 l2)
    (hz : IsZipHeld s.heap z TI TO T f) (hT : s.heap.get? T = some oT) (hTI : IsPair s.heap TI (.ref i1) (.ref i2))
    (h1 : IsIt b1 s.heap i1 l1 k1) (h2 : IsIt b2 s.heap i2 l2 k2) (hl1 : IsSq b1 s.heap l1 xs) (hl2 : IsSq b2 s.heap l2 ys) (hend : xs[k1]? = none ∨ ys[k2]? = none)
    (hQ : ∀ h', (∀ c o, c ≠ z → c ≠ i1 → c ≠ i2 → s.heap.get? c = some o → h'.get? c = some o) → Q none { s with heap := h' }) : wpAny (model prog w) A (pyNext (.ref z)) Q E s := by
  have hTy : s.TypeIs (.ref z) "zip" := ⟨_, hz, rfl⟩
  unfold pyNext
  refine wpAny_bind (wpAny_attempt (wpAny_callSpecial?_slot (name := Str.ofString "__next__") hTy F.slot_zip_next (wpAny_call_entry F.slot_zip_next hTy F.entry_zip_next ?_ (F.args_zip_next_1 _))))
  refine zh_end hh D hz hT hTI h1 h2 hl1 hl2 hend fun h' e hk he => ?_
  obtain ⟨o, ho, hc⟩ := he
  exact wpAny_bind (wpAny_isInstance (T := "StopIteration") (b := true) ⟨o, ho, hc⟩ isSubtype_stop (wpAny_pure (hQ _ hk)))
end
section
variable {prog : Program} {w : World}
abbrev ZipSt (b1 b2 : Bool) (z TI TO i1 i2 l1 l2 : Addr) (xs ys : Array Value) (h : Heap) : Prop :=
  IsZip h z TI TO .none ∧ IsPair h TI (.ref i1) (.ref i2) ∧ (∃ a b, IsPair h TO a b) ∧ IsIt b1 h i1 l1 0 ∧ IsIt b2 h i2 l2 0 ∧ IsSq b1 h l1 xs ∧ IsSq b2 h l2 ys
theorem zip_arg (b1 b2 : Bool) (z TI TO i1 i2 l1 l2 : Addr) (D : ZipApart z TI TO i1 i2 l1 l2) (xs ys : Array Value) :
    PairArg prog w "zip" z [z, TI, TO, i1, i2, l1, l2] [z, TO, i1, i2] (min xs.size ys.size) (fun i k v => xs[i]? = some k ∧ ys[i]? = some v) (ZipSt b1 b2 z TI TO i1 i2 l1 l2 xs ys) where
  type := fun s ok => ⟨_, ok.1, rfl⟩
  notDict := by decide
  keep := fun h h' ⟨hz, hTI, ⟨a, b, hTO⟩, h1, h2, hl1, hl2⟩ hk =>
    ⟨hk _ _ hz, hk _ _ hTI, ⟨a, b, hk _ _ hTO⟩, h1.up fun o e => hk _ o e, h2.up fun o e => hk _ o e, hl1.up fun o e => hk _ o e, hl2.up fun o e => hk _ o e⟩
  there := fun h ⟨hz, hTI, ⟨a, c, hTO⟩, h1, h2, hl1, hl2⟩ b hb => by
    simp only [List.mem_cons, List.not_mem_nil, or_false] at hb
    rcases hb with rfl | rfl | rfl | rfl | rfl | rfl | rfl
    · exact ⟨_, hz⟩
    · exact ⟨_, hTI⟩
    · exact ⟨_, hTO⟩
    · exact h1.ob
    · exact h2.ob
    · exact hl1.ob
    · exact hl2.ob
  sub := fun b hb => by
    simp at hb ⊢
    rcases hb with rfl | rfl | rfl | rfl <;> simp
  noKeys := fun A s Q E hA ok h => getAttrOr_miss_zip ok.1 rfl rfl rfl zip_no_keys (by decide +kernel) hA h
  iter := fun A s d Q E hA ⟨hz, hTI, ⟨a, b, hTO⟩, h1, h2, hl1, hl2⟩ hd hdf h => by
    simp only [List.mem_cons, List.not_mem_nil, or_false, not_or] at hdf
    obtain ⟨dz, dTI, dTO, di1, di2, dl1, dl2⟩ := hdf
    refine wpAny_pyIter_zip hz (h z [z, TO, i1, i2] (fun i h => IsPair h TI (.ref i1) (.ref i2) ∧ IsIt b1 h i1 l1 i ∧ IsIt b2 h i2 l2 i ∧ IsSq b1 h l1 xs ∧ IsSq b2 h l2 ys ∧
      ((IsZip h z TI TO .none ∧ ∃ a b, IsPair h TO a b) ∨ ∃ T f oT, IsZipHeld h z TI TO T f ∧ h.get? T = some oT ∧ T ≠ z ∧ T ≠ i1 ∧ T ≠ i2 ∧ T ≠ d)) s.heap s.toks ?_ ⟨hTI, h1, h2, hl1, hl2, .inl ⟨hz, a, b, hTO⟩⟩ (fun _ _ e => e) fun b hb => .inl hb)
    exact {
      off := fun hm => by
        simp only [List.mem_cons, List.not_mem_nil, or_false] at hm
        rcases hm with e | e | e | e
        · exact dz e
        · exact dTO e
        · exact di1 e
        · exact di2 e
      frame := fun i h₁ h₂ ⟨hTI, h1, h2, hl1, hl2, hz⟩ hk => by
        refine ⟨hk _ _ (Ne.symm dTI) hTI, h1.up fun o e => hk _ o (Ne.symm di1) e, h2.up fun o e => hk _ o (Ne.symm di2) e, hl1.up fun o e => hk _ o (Ne.symm dl1) e, hl2.up fun o e => hk _ o (Ne.symm dl2) e, ?_⟩
        rcases hz with ⟨hz, a, b, hTO⟩ | ⟨T, f, oT, hz, hT, r1, r2, r3, r4⟩
        · exact .inl ⟨hk _ _ (Ne.symm dz) hz, a, b, hk _ _ (Ne.symm dTO) hTO⟩
        · exact .inr ⟨T, f, oT, hk _ _ (Ne.symm dz) hz, hk _ _ r4 hT, r1, r2, r3, r4⟩
      item := fun i s₁ Q₁ E₁ hi ⟨hTI, h1, h2, hl1, hl2, hz⟩ hds hQ => by
        have ex := Array.getElem?_eq_getElem (Nat.lt_of_lt_of_le hi (Nat.min_le_left ..))
        have ey := Array.getElem?_eq_getElem (Nat.lt_of_lt_of_le hi (Nat.min_le_right ..))
        have n1 : s₁.heap.objs.size ≠ i1 := let ⟨_, e⟩ := h1.ob; Nat.ne_of_gt (Heap.lt_size e)
        have n2 : s₁.heap.objs.size ≠ i2 := let ⟨_, e⟩ := h2.ob; Nat.ne_of_gt (Heap.lt_size e)
        rcases hz with ⟨hz, a, b, hTO⟩ | ⟨T, f, oT, hz, hT, r1, r2, r3, r4⟩
        · refine zn_item D hz hTI hTO h1 h2 hl1 hl2 ex ey fun h' a1 a3 a4 a5 hk => ?_
          refine hQ s₁.heap.objs.size _ _ h' s₁.toks ⟨ex, ey⟩ (.inl ⟨_, a5, rfl, _, rfl⟩) ⟨hk _ _ D.TIz D.TITO D.TIi1 D.TIi2 hTI, a3, a4, hl1.up fun o e => hk _ o D.l1z D.l1TO D.l1i1 D.l1i2 e, hl2.up fun o e => hk _ o D.l2z D.l2TO D.l2i1 D.l2i2 e, .inr ⟨s₁.heap.objs.size, false, _, a1, a5, Nat.ne_of_gt (Heap.lt_size hz), n1, n2, Nat.ne_of_gt hds⟩⟩ fun c o hc e => ?_
          simp only [List.mem_cons, List.not_mem_nil, or_false, not_or] at hc
          exact hk c o hc.1 hc.2.1 hc.2.2.1 hc.2.2.2 e
        · refine zhn_item D hz hT hTI h1 h2 hl1 hl2 ex ey fun h' a1 a3 a4 a5 hk => ?_
          refine hQ s₁.heap.objs.size _ _ h' s₁.toks ⟨ex, ey⟩ (.inl ⟨_, a5, rfl, _, rfl⟩) ⟨hk _ _ D.TIz D.TIi1 D.TIi2 hTI, a3, a4, hl1.up fun o e => hk _ o D.l1z D.l1i1 D.l1i2 e, hl2.up fun o e => hk _ o D.l2z D.l2i1 D.l2i2 e, .inr ⟨T, true, oT, a1, hk _ _ r1 r2 r3 hT, r1, r2, r3, r4⟩⟩ fun c o hc e => ?_
          simp only [List.mem_cons, List.not_mem_nil, or_false, not_or] at hc
          exact hk c o hc.1 hc.2.2.1 hc.2.2.2 e
      done := fun s₁ Q₁ E₁ ⟨hTI, h1, h2, hl1, hl2, hz⟩ hQ => by
        have hend : xs[min xs.size ys.size]? = none ∨ ys[min xs.size ys.size]? = none := by
          rcases Nat.le_total xs.size ys.size with h | h
          · exact .inl (Array.getElem?_eq_none (by omega))
          · exact .inr (Array.getElem?_eq_none (by omega))
        rcases hz with ⟨hz, a, b, hTO⟩ | ⟨T, f, oT, hz, hT, r1, r2, r3, r4⟩
        · refine zn_end hA D hz hTI hTO h1 h2 hl1 hl2 hend fun h' hk => hQ h' s₁.toks fun c o hc e => ?_
          simp only [List.mem_cons, List.not_mem_nil, or_false, not_or] at hc
          exact hk c o hc.1 hc.2.1 hc.2.2.1 hc.2.2.2 e
        · refine zhn_end hA D hz hT hTI h1 h2 hl1 hl2 hend fun h' hk => hQ h' s₁.toks fun c o hc e => ?_
          simp only [List.mem_cons, List.not_mem_nil, or_false, not_or] at hc
          exact hk c o hc.1 hc.2.2.1 hc.2.2.2 e }
/-! ### zip made -/
def itN (b : Bool) : String := if b = true then "tuple_iterator" else "list_iterator"
def itO (b : Bool) (l : Addr) : Obj := { cls := .type (itN b), data := .fields #[.ref l, .int 0 0] }
theorem itO_is {b : Bool} {h : Heap} {it l : Addr} (e : h.get? it = some (itO b l)) : IsIt b h it l 0 := by
  cases b
  · exact ⟨_, e, rfl, rfl⟩
  · exact ⟨_, e, rfl, rfl⟩
abbrev zH1 (h : Heap) (b1 : Bool) (l1 : Addr) : Heap := h.push (itO b1 l1)
abbrev zH2 (h : Heap) (b1 b2 : Bool) (l1 l2 : Addr) : Heap := (zH1 h b1 l1).push (itO b2 l2)
abbrev zH3 (h : Heap) (b1 b2 : Bool) (l1 l2 : Addr) : Heap := (zH2 h b1 b2 l1 l2).push { cls := .type "tuple", data := .seq #[.ref h.objs.size, .ref (zH1 h b1 l1).objs.size] }
abbrev zH4 (h : Heap) (b1 b2 : Bool) (l1 l2 : Addr) : Heap := (zH3 h b1 b2 l1 l2).push { cls := .type "tuple", data := .seq #[.none, .none] }
abbrev zH5 (h : Heap) (b1 b2 : Bool) (l1 l2 : Addr) : Heap := (zH4 h b1 b2 l1 l2).push { cls := .type "zip", data := .fields #[.none, .bool false, .bool false, .ref (zH2 h b1 b2 l1 l2).objs.size, .ref (zH3 h b1 b2 l1 l2).objs.size] }
theorem pyIter_sq {A : Around} {E : Value → Shared → Prop} {s : Shared} {b : Bool} {l : Addr} {xs : Array Value} {Q : Value → Shared → Prop} (hl : IsSq b s.heap l xs) (h : Q (.ref s.heap.objs.size) { s with heap := s.heap.push (itO b l) }) : wpAny (model prog w) A (pyIter (.ref l)) Q E s := by
  cases b
  · exact wpAny_pyIter_list (show s.heap.IsList l xs from hl) h
  · exact wpAny_pyIter_tuple (show s.heap.IsTuple l xs from hl) h
theorem meets_zm (b1 b2 : Bool) (l1 l2 : Addr) (xs ys : Array Value) :
    Meets (Builtin.«zip.__new__» ⟨[.type "zip", .ref l1, .ref l2], []⟩) (fun _ R s => IsSq b1 s.heap l1 xs ∧ IsSq b2 s.heap l2 ys ∧
      R (.ok (.ret (.ref (zH4 s.heap b1 b2 l1 l2).objs.size))) { s with heap := zH5 s.heap b1 b2 l1 l2 }) :=
  .of_wp fun prog w A R s h => by
    obtain ⟨hp, g, d, tk, os⟩ := s; obtain ⟨hl1, hl2, h⟩ := h
    have hsub := sub_zip
    have hL1 : IsSq b1 (Shared.heap ⟨hp, g, d, tk, os⟩) l1 xs := hl1
    have hL2 : IsSq b2 (Shared.heap ⟨hp.push (itO b1 l1), g, d, tk, os⟩) l2 ys := IsSq.up hl2 fun o e => Heap.get?_push_of_some _ e
    wp_walk using pyIter_sq hL1, pyIter_sq hL2
    exact ⟨_, rfl, h⟩
theorem call_zm {A : Around} {E : Value → Shared → Prop} {s : Shared} {b1 b2 : Bool} {l1 l2 : Addr} {xs ys : Array Value} {Q : Value → Shared → Prop} (hl1 : IsSq b1 s.heap l1 xs) (hl2 : IsSq b2 s.heap l2 ys)
    (h : ∀ h', ZipSt b1 b2 (s.heap.objs.size + 4) (s.heap.objs.size + 2) (s.heap.objs.size + 3) s.heap.objs.size (s.heap.objs.size + 1) l1 l2 xs ys h' →
      (∀ c o, s.heap.get? c = some o → h'.get? c = some o) → Q (.ref (s.heap.objs.size + 4)) { s with heap := h' }) :
    wpAny (model prog w) A (call (.type "zip") [.ref l1, .ref l2]) Q E s := by
  refine callType_new F.called_zip (by decide) (F.typeCall_zip_2 _ _) (F.newCall_zip_2 _ _) (fun obj => F.args_object_init_3 obj _ _) F.entry_zip_new (meets_zm b1 b2 l1 l2 xs ys) ⟨hl1, hl2, ?_⟩
  have z1 : (zH1 s.heap b1 l1).objs.size = s.heap.objs.size + 1 := Heap.size_push ..
  have z2 : (zH2 s.heap b1 b2 l1 l2).objs.size = s.heap.objs.size + 2 := by rw [Heap.size_push, z1]
  have z3 : (zH3 s.heap b1 b2 l1 l2).objs.size = s.heap.objs.size + 3 := by rw [Heap.size_push, z2]
  have z4 : (zH4 s.heap b1 b2 l1 l2).objs.size = s.heap.objs.size + 4 := by rw [Heap.size_push, z3]
  have kp : ∀ c o, s.heap.get? c = some o → (zH5 s.heap b1 b2 l1 l2).get? c = some o := fun c o x =>
    Heap.get?_push_of_some _ (Heap.get?_push_of_some _ (Heap.get?_push_of_some _ (Heap.get?_push_of_some _ (Heap.get?_push_of_some _ x))))
  have g5 : (zH5 s.heap b1 b2 l1 l2).get? (zH4 s.heap b1 b2 l1 l2).objs.size = some _ := Heap.get?_push_size _ rfl
  have g4 : (zH5 s.heap b1 b2 l1 l2).get? (zH3 s.heap b1 b2 l1 l2).objs.size = some _ := Heap.get?_push_of_some _ (Heap.get?_push_size _ rfl)
  have g3 : (zH5 s.heap b1 b2 l1 l2).get? (zH2 s.heap b1 b2 l1 l2).objs.size = some _ := Heap.get?_push_of_some _ (Heap.get?_push_of_some _ (Heap.get?_push_size _ rfl))
  have g2 : (zH5 s.heap b1 b2 l1 l2).get? (zH1 s.heap b1 l1).objs.size = some (itO b2 l2) := Heap.get?_push_of_some _ (Heap.get?_push_of_some _ (Heap.get?_push_of_some _ (Heap.get?_push_size _ rfl)))
  have g1 : (zH5 s.heap b1 b2 l1 l2).get? s.heap.objs.size = some (itO b1 l1) := Heap.get?_push_of_some _ (Heap.get?_push_of_some _ (Heap.get?_push_of_some _ (Heap.get?_push_of_some _ (Heap.get?_push_size _ rfl))))
  show _ ∧ _
  rw [z2, z3, z4] at g5
  rw [z1, z2] at g3
  rw [z3] at g4
  rw [z1] at g2
  rw [z4]
  exact ⟨⟨_, g5, rfl⟩, h _ ⟨g5, g3, ⟨_, _, g4⟩, itO_is g1, itO_is g2, hl1.up fun o e => kp _ o e, hl2.up fun o e => kp _ o e⟩ kp⟩
end
/-! ### the rule -/
section
variable {X : Cx}
def SqB (K : PySem.W.Frag) (H : Hp) (b : Bool) (a : Addr) (xs : List V) : Prop := if b = true then SqT K H a xs else SqL K H a xs
theorem Inv.sqB {pins : List (Addr × Obj)} {σ : L2.St} {H : Hp} {s : Shared} {b : Bool} {a : Addr} {xs : List V} (I : Inv X pins σ H s) (h : SqB X.K H b a xs) : ∃ its : List Value, Vals xs its ∧ IsSq b s.heap a its.toArray ∧ xs.length ≤ sizeLine := by
  cases b
  · obtain ⟨its, r, p, z⟩ := I.list (show SqL X.K H a xs from h)
    exact ⟨its, r, p.isList, z⟩
  · obtain ⟨its, r, p, z⟩ := I.tuple (show SqT X.K H a xs from h)
    exact ⟨its, r, p, z⟩
def rDZip (K : PySem.W.Frag) : List V → Hp → VK → Prop := fun vs H Q => ∃ (a c : Addr) (b1 b2 : Bool) (ks : List Key) (ys : List V), vs = [.ref a, .ref c] ∧ SqB K H b1 a (ks.map kV) ∧ SqB K H b2 c ys ∧ ks.length = ys.length ∧
  ∀ p, H p = none → Q (.ref p) (upd H p (.dK (mergeK [] (ks.zip ys))))
theorem kv_zip : ∀ {ks : List Key} {ys : List V} {us : List Value}, ks.length = ys.length → Vals ys us → KV (ks.zip ys) (ks.zip us)
  | [], [], _, _, r => by cases r; exact .nil
  | k :: ks, y :: ys, _, h, r => by
    cases r with
    | cons a t => exact .cons ⟨rfl, a⟩ (kv_zip (by simpa using h) t)
  | [], _ :: _, _, h, _ => by cases h
  | _ :: _, [], _, h, _ => by cases h
theorem vals_at {xs : List V} {us : List Value} (r : Vals xs us) {i : Nat} {u : Value} (h : us[i]? = some u) : ∃ x, xs[i]? = some x ∧ RelV x u := by
  induction r generalizing i with
  | nil => simp at h
  | cons a t ih =>
    cases i with
    | zero => simp at h; subst h; exact ⟨_, rfl, a⟩
    | succ i => exact ih (by simpa using h)
variable {ks0 : List Sh} {W : WX} {e1 e2 : Expr} {t : TA} {p p2 q pos : Pos}
theorem pe_dzip (hc : X.calm = true) (hg : Gl X "dict") (hm : X.mg "dict" = none) (hg2 : Gl X "zip") (hm2 : X.mg "zip" = none) (ha : PA X [e1, e2] t)
    (na : starEach [.Call (.Name "zip" p2) [e1, e2] [] q] X.env = (false, eval (.Call (.Name "zip" p2) [e1, e2] [] q) X.env) :: starEach [] X.env := by rfl)
    (he : starEach [e1, e2] X.env = (false, eval e1 X.env) :: starEach [e2] X.env := by rfl) (hpl : (backTo q (starEach [e2] X.env)).any (·.1) = false := by rfl) :
    PE X (.Call (.Name "dict" p) [.Call (.Name "zip" p2) [e1, e2] [] q] [] pos) (tCB (rDZip X.K) t) := by
  refine ⟨fun pins s σ H Q I h => ?_⟩
  refine PyProof.Rows.Call_ (ld_blt I hg hm PyProof.Rows.boot_dict ?_)
  refine PyProof.Rows.callWith_type1 (PyProof.Rows.args_cons ?_ na) na rfl
  refine PyProof.Rows.Call_ (ld_blt I hg2 hm2 PyProof.Rows.boot_zip ?_)
  refine PyProof.Rows.callWith_type1 (thn (ha.run q pins s σ H _ I h) fun us s1 ⟨vs, H1, I1, r1, q1⟩ => ?_) he hpl
  obtain ⟨a, c, b1, b2, ks, ys, rfl, hqa, hqc, hl, q1⟩ := q1
  cases r1 with
  | cons ra rr =>
  cases rr with
  | cons rc rr =>
  cases rr
  cases ra
  cases rc
  obtain ⟨its, rv, p1, hz⟩ := VL.Inv.sqB I1 hqa
  obtain ⟨its2, rv2, p2', hz2⟩ := VL.Inv.sqB I1 hqc
  have la : a < s1.heap.objs.size := let ⟨_, e⟩ := p1.ob; Heap.lt_size e
  have lc : c < s1.heap.objs.size := let ⟨_, e⟩ := p2'.ob; Heap.lt_size e
  have ll := rv.length
  have ll2 := rv2.length
  rw [List.length_map] at ll hz
  refine call_zm p1 p2' fun h' st kp => ?_
  refine PyProof.Rows.args_nil ?_
  have D : ZipApart (s1.heap.objs.size + 4) (s1.heap.objs.size + 2) (s1.heap.objs.size + 3) s1.heap.objs.size (s1.heap.objs.size + 1) a c := PySem.W.ktu_apart s1.heap.objs.size a c la lc
  refine call_dict_pairs (knd := mixKind X.prog X.w) (kvs := ks.zip its2) (zip_arg b1 b2 _ _ _ _ _ _ _ D its.toArray its2.toArray) (I1.ok.hd hc) st ⟨?_, fun i key v hk => ?_⟩ (by simp; omega) fun h2 tk hd' k2 => ?_
  · simp; omega
  · obtain ⟨x, hx, rx⟩ := vals_at rv (by simpa using hk.1)
    rw [List.getElem?_map] at hx
    obtain ⟨k, hk', rfl⟩ := Option.map_eq_some_iff.mp hx
    have hv : its2[i]? = some v := by simpa using hk.2
    exact ⟨k, by rw [List.getElem?_zip_eq_some]; exact ⟨hk', hv⟩, kV_is rx⟩
  · have hb : s1.heap.objs.size + 4 < h'.objs.size := Heap.lt_size st.1
    have kk : ∀ b o, s1.heap.get? b = some o → h2.get? b = some o := fun b o e => k2 b o (fun m => by
      have lb := Heap.lt_size e
      simp only [List.mem_cons, List.not_mem_nil, or_false] at m
      rcases m with m | m | m | m
      · rw [m] at lb; exact Nat.not_lt_of_le (Nat.le_add_right _ _) lb
      · rw [m] at lb; exact Nat.not_lt_of_le (Nat.le_add_right _ _) lb
      · rw [m] at lb; exact Nat.lt_irrefl _ lb
      · rw [m] at lb; exact Nat.not_lt_of_le (Nat.le_add_right _ _) lb) (kp b o e)
    have hm : (h'.objs.size == sysModules) = false := beq_eq_false_iff_ne.mpr (Nat.ne_of_gt (Nat.lt_trans I1.big (by omega)))
    have hlen : (mergeK [] (ks.zip ys)).length ≤ sizeLine := by
      refine Nat.le_trans (length_mergeK (ks.zip ys) []) ?_
      rw [List.length_nil, Nat.zero_add, List.length_zip]; omega
    exact ⟨.ref h'.objs.size, upd H1 h'.objs.size (.dK (mergeK [] (ks.zip ys))), I1.laid (t' := tk) kk (by omega) (show ObjOk X.prog X.w _ _ _ (.dK (mergeK [] (ks.zip ys))) from ⟨hlen, hm, merged [] (ks.zip its2), KV.merge (kv_zip hl rv2) .nil, hd'⟩), rfl, q1 _ (I1.hok.fresh (by omega))⟩

def zipD (d e : D) : Option D := d.mem.bind fun ds => e.mem.bind fun es => (keyTs ds).bind fun ks => if ks.length = es.length then some (.dK (putAll [] (ks.zip es))) else none
theorem keyTs_len : ∀ {ds : List D} {ks : List Key}, keyTs ds = some ks → ks.length = ds.length
  | [], _, e => by cases e; rfl
  | d :: ds, ks, e => by
    have e' : ((keyK d).bind fun k => (keyTs ds).bind fun ks => some (k :: ks)) = some ks := e
    cases e1 : keyK d with
    | none => rw [e1] at e'; cases e'
    | some k =>
      cases e2 : keyTs ds with
      | none => rw [e1, e2] at e'; cases e'
      | some r =>
        rw [e1, e2] at e'
        cases e'
        rw [List.length_cons, List.length_cons, keyTs_len e2]
theorem zipKfst : ∀ {α β γ : Type} {ks : List α} {xs : List β} {ys : List γ}, ks.length = xs.length → ks.length = ys.length → (ks.zip xs).map Prod.fst = (ks.zip ys).map Prod.fst
  | _, _, _, [], _, _, _, _ => by simp
  | _, _, _, k :: ks, x :: xs, y :: ys, h1, h2 => by simp [zipKfst (ks := ks) (xs := xs) (ys := ys) (by simpa using h1) (by simpa using h2)]
  | _, _, _, _ :: _, [], _, h, _ => by cases h
  | _, _, _, _ :: _, _ :: _, [], _, h => by cases h
theorem zipKsnd : ∀ {α β : Type} {ks : List α} {xs : List β}, ks.length = xs.length → (ks.zip xs).map Prod.snd = xs
  | _, _, [], [], _ => rfl
  | _, _, k :: ks, x :: xs, h => by rw [List.zip_cons_cons, List.map_cons, zipKsnd (by simpa using h)]
  | _, _, [], _ :: _, h => by cases h
  | _, _, _ :: _, [], h => by cases h
theorem s_dzip {K : PySem.W.Frag} : OpN K (.dic .leaf) (rDZip K) (two zipD) := by
  refine s_two fun F H x y d e z Q sm hx hy ez ok => ?_
  unfold zipD at ez
  cases m1 : d.mem with
  | none => rw [m1] at ez; cases ez
  | some ds =>
  cases m2 : e.mem with
  | none => rw [m1, m2] at ez; cases ez
  | some es =>
  rw [m1, m2, Option.bind_some, Option.bind_some] at ez
  cases k1 : keyTs ds with
  | none => rw [k1] at ez; cases ez
  | some ks =>
  rw [k1, Option.bind_some] at ez
  by_cases hl : ks.length = es.length
  · rw [if_pos hl] at ez
    cases ez
    obtain ⟨p, vs, rfl, q1, r1⟩ := hx.memE sm m1
    obtain ⟨q, us, rfl, q2, r2⟩ := hy.memE sm m2
    have ev := keyTsE r1 k1
    subst ev
    have l2 := r2.length
    have lu : ks.length = us.length := by rw [hl, l2]
    have mr := merge_rel (F := F) (K := K) (kvs := []) (ds := []) (more := ks.zip us) (mds := ks.zip es) (zipKfst lu hl) (by rw [zipKsnd lu, zipKsnd hl]; exact r2) rfl .nil
    have fin : ∀ p, H p = none → Q (.ref p) (upd H p (.dK (mergeK [] (ks.zip us)))) := fun l n => ok.newK sm mr.1 mr.2 n
    rcases q1 with q1 | q1
    · rcases q2 with q2 | q2
      · exact ⟨p, q, false, false, ks, us, rfl, q1, q2, lu, fin⟩
      · exact ⟨p, q, false, true, ks, us, rfl, q1, q2, lu, fin⟩
    · rcases q2 with q2 | q2
      · exact ⟨p, q, true, false, ks, us, rfl, q1, q2, lu, fin⟩
      · exact ⟨p, q, true, true, ks, us, rfl, q1, q2, lu, fin⟩
  · rw [if_neg hl] at ez; cases ez
theorem ev_dzip {mo : DEnv → R (List Opd)} (K : PySem.W.Frag) (hK : X.K = K) (hc : X.calm = true) (ha : EOs X ks0 W [e1, e2] t mo) (hm : X.mg "dict" = none) (hm2 : X.mg "zip" = none) (hg : Gl X "dict" := by rfl) (hg2 : Gl X "zip" := by rfl)
    (na : starEach [.Call (.Name "zip" p2) [e1, e2] [] q] X.env = (false, eval (.Call (.Name "zip" p2) [e1, e2] [] q) X.env) :: starEach [] X.env := by rfl)
    (he : starEach [e1, e2] X.env = (false, eval e1 X.env) :: starEach [e2] X.env := by rfl) (hpl : (backTo q (starEach [e2] X.env)).any (·.1) = false := by rfl) :
    EV X ks0 W (.Call (.Name "dict" p) [.Call (.Name "zip" p2) [e1, e2] [] q] [] pos) (.dic .leaf) (tCB (rDZip K) t) (mOpN (two zipD) mo) := by
  subst hK
  exact ⟨pe_dzip hc hg hm hg2 hm2 ha.pe na he hpl, snd_opN (b := bd X ks0 W) s_dzip ha.sd⟩
end
end VL
set_option maxHeartbeats 4000000
/-! V44: len(set(x)), x a tuple or a list of ints and texts. -/
namespace VL
open PySem PySem.Spec L2
instance memKD (k : Key) (l : List Key) : Decidable (k ∈ l) := @List.instDecidableMemOfLawfulBEq Key instBEqOfDecidableEq _ k l
theorem snoc_ind {α : Type} {C : List α → Prop} (h0 : C []) (h1 : ∀ l a, C l → C (l ++ [a])) (l : List α) : C l := by
  have : ∀ m : List α, C m.reverse := fun m => by
    induction m with
    | nil => exact h0
    | cons a m ih => rw [List.reverse_cons]; exact h1 _ _ ih
  have := this l.reverse
  rwa [List.reverse_reverse] at this
/-- the keys of a list, each once -/
def onceK (ks : List Key) : List Key := ks.foldl (fun acc k => if k ∈ acc then acc else acc ++ [k]) []
theorem onceK_snoc (ks : List Key) (k : Key) : onceK (ks ++ [k]) = if k ∈ onceK ks then onceK ks else onceK ks ++ [k] := by
  unfold onceK; rw [List.foldl_append]; rfl
theorem mem_onceK : ∀ {ks : List Key} {k : Key}, k ∈ onceK ks ↔ k ∈ ks := by
  intro ks
  induction ks using snoc_ind with
  | h0 => intro k; exact Iff.rfl
  | h1 ks a ih =>
    intro k
    rw [onceK_snoc]
    split
    · rename_i h
      rw [ih, List.mem_append, List.mem_singleton]
      exact ⟨.inl, fun z => z.elim id fun e => e ▸ ih.mp h⟩
    · rw [List.mem_append, List.mem_append, ih]
theorem onceK_len (ks : List Key) : (onceK ks).length ≤ ks.length := by
  induction ks using snoc_ind with
  | h0 => exact Nat.le_refl _
  | h1 ks a ih =>
    rw [onceK_snoc]
    split
    · rw [List.length_append]; omega
    · rw [List.length_append, List.length_append]; simpa using ih
theorem onceK_nodup {ks : List Key} (h : ks.Nodup) : onceK ks = ks := by
  induction ks using snoc_ind with
  | h0 => rfl
  | h1 ks a ih =>
    have hn := List.nodup_append.mp h
    rw [onceK_snoc, ih hn.1, if_neg fun m => hn.2.2 a m a (List.mem_singleton.mpr rfl) rfl]
theorem onceK_lt {ks : List Key} (h : ¬ ks.Nodup) : (onceK ks).length < ks.length := by
  induction ks using snoc_ind with
  | h0 => exact absurd List.nodup_nil h
  | h1 ks a ih =>
    rw [onceK_snoc, List.length_append]
    by_cases hk : ks.Nodup
    · have m : a ∈ ks := Decidable.byContradiction fun m => h (List.nodup_append.mpr ⟨hk, by simp, fun x hx y hy e => by
        rw [List.mem_singleton.mp hy] at e; exact m (e ▸ hx)⟩)
      rw [if_pos (mem_onceK.mpr m)]
      have := onceK_len ks
      simp; omega
    · have := ih hk
      split
      · simp; omega
      · rw [List.length_append]; simp; omega
theorem setOf_cg {P : Program} {w : World} {h : Heap} {a : Addr} {S S' : Key → Bool} {n n' : Nat} (hS : h.SetOf (mixKind P w) a S n) (e : ∀ k, S k = S' k) (en : n = n') : h.SetOf (mixKind P w) a S' n' := by
  obtain rfl : S = S' := funext e
  subst en; exact hS
section
variable {P : Program} {w : World} {A : Around} {E : Value → Shared → Prop} {s : Shared}
theorem set_upK {I : Addr} {fp wr : List Addr} {G : Array GenState → Array GenState → Prop} {n : Nat} {Pv : Nat → Value → Prop} {St : Nat → Shared → Prop} {R : Result → Shared → Prop}
    (W : WalksS P w A.in1 I fp wr G n Pv St) (S : Addr) (hSf : S ∉ fp) (ks : List Key) (hn : n = ks.length) (hb : ks.length + 1 < scanBound) (hval : ∀ i v, Pv i v → ∃ k, ks[i]? = some k ∧ RelV (kV k) v) :
    ∀ (m i : Nat) (s : Shared), n - i = m → i ≤ n → St i s → s.heap.SetOf (mixKind P w) S (fun j => decide (j ∈ ks.take i)) (onceK (ks.take i)).length →
      (∀ s', Moved (S :: wr) G s s' → s'.heap.SetOf (mixKind P w) S (fun j => decide (j ∈ ks)) (onceK ks).length → R (.ok (.ret .none)) s') →
      codeAny (model P w) A (.builtin "set.update.loop" ⟨[.ref S, .ref I], []⟩) R s := by
  have hSw : S ∉ wr := fun h => hSf (W.sub _ h)
  have hsub : ∀ b ∈ wr, b ∈ S :: wr := fun b hb => List.mem_cons_of_mem _ hb
  intro m
  induction m with
  | zero =>
    intro i s hk' hi hst hS hR
    have hin : i = n := by omega
    subst hin
    refine codeAny_builtin PyProof.Rows.F.entry_set_update_loop ?_
    rw [Around.under_plainId PyProof.Rows.F.plain_set_update_loop _]
    show wpAny _ A.in1 (pyNext (.ref I) >>= _) _ _ s
    refine wpAny_bind (W.done s _ _ hst fun s' hm => ?_)
    show wpAny _ A.in1 (ret Value.none) _ _ s'
    have e : ks.take i = ks := List.take_of_length_le (by omega)
    rw [e] at hS
    exact wpAny_pure (hR s' (hm.mono hsub) (setOf_at hS fun o e => hm.heap S o hSw e))
  | succ m ih =>
    intro i s hk' hi hst hS hR
    have hlt : i < n := by omega
    refine codeAny_builtin PyProof.Rows.F.entry_set_update_loop ?_
    rw [Around.under_plainId PyProof.Rows.F.plain_set_update_loop _]
    show wpAny _ A.in1 (pyNext (.ref I) >>= _) _ _ s
    refine wpAny_bind (W.item i s _ _ hlt hst fun v s' hP hst' hm => ?_)
    obtain ⟨k, hz, rk⟩ := hval i v hP
    have hS' := setOf_at (h' := s'.heap) hS fun o e => hm.heap S o hSw e
    show wpAny _ A.in1 (holding [v] (setAdd S v) >>= _) _ _ s'
    refine wpAny_bind (wpAny_holding ?_)
    unfold setAdd
    refine wpAny_holding ?_
    have lk := onceK_len (ks.take i)
    rw [List.length_take] at lk
    refine wpAny_bind ((mixKind P w).pyHash (k := k) (kV_is rk) ?_)
    refine wpAny_setAddHashed_of (knd := mixKind P w) (s := { s' with toks := s'.toks + 1 }) (kV_is rk) (key_scan rk) hS' (by omega) fun h' hsb hS2 => ?_
    have et : ks.take (i + 1) = ks.take i ++ [k] := by rw [List.take_add_one, hz]; rfl
    have hS3 : h'.SetOf (mixKind P w) S (fun j => decide (j ∈ ks.take (i + 1))) (onceK (ks.take (i + 1))).length := by
      refine setOf_cg hS2 (fun j => ?_) ?_
      · show (decide (j ∈ ks.take i) || decide (j = k)) = decide (j ∈ ks.take (i + 1))
        rw [et]
        by_cases h1 : j ∈ ks.take i
        · rw [decide_eq_true h1, decide_eq_true (List.mem_append_left _ h1), Bool.true_or]
        · by_cases h2 : j = k
          · rw [decide_eq_true h2, decide_eq_true (List.mem_append_right _ (h2 ▸ List.mem_singleton.mpr rfl)), Bool.or_true]
          · rw [decide_eq_false h1, decide_eq_false h2, decide_eq_false fun m => (List.mem_append.mp m).elim h1 fun m => h2 (List.mem_singleton.mp m)]; rfl
      · rw [et, onceK_snoc]
        by_cases hm : k ∈ ks.take i
        · rw [if_pos (mem_onceK.mpr hm), if_pos (decide_eq_true hm)]
        · rw [if_neg (fun z => hm (mem_onceK.mp z)), if_neg (by rw [decide_eq_true_iff]; exact hm), List.length_append]; rfl
    refine wpAny_pure ⟨plainId_quiet PyProof.Rows.F.plain_set_update_loop _, ih (i + 1) _ (by omega) hlt (W.frame _ s' _ _ hst' (Nat.le_succ _) fun b hb o e => ?_) hS3 fun s'' hm'' hS'' => ?_⟩
    · rw [hsb.2 b (fun h : b = S => hSf (by rw [← h]; exact hb))]; exact e
    · refine hR s'' (Moved.trans W.gtrans ((hm.mono hsub).then_heap (Nat.le_succ _) fun b o hb e => ?_) hm'') hS''
      rw [hsb.2 b (fun h : b = S => hb (by rw [h]; exact List.mem_cons_self))]; exact e
theorem walks_sq {b : Bool} (hh : A.handled = none) (I l : Addr) (hne : l ≠ I) (items : Array Value) : PySem.Walks P w A I [I, l] [I] items.size (fun i v => items[i]? = some v) (fun i h => IsIt b h I l i ∧ IsSq b h l items) := by
  cases b
  · exact PySem.Walks.list hh I l hne items
  · exact PySem.Walks.tuple hh I l hne items

open PyProof.Rows in
theorem call_setK {b : Bool} {l : Addr} {items : Array Value} {ks : List Key} {Q : Value → Shared → Prop} (hh : A.handled = none) (hl : IsSq b s.heap l items) (hi : Vals (ks.map kV) items.toList) (hb : ks.length + 1 < scanBound)
    (h : ∀ (h' : Heap) (tk : Nat), h'.SetOf (mixKind P w) s.heap.objs.size (fun j => decide (j ∈ ks)) (onceK ks).length → (∀ b o, s.heap.get? b = some o → h'.get? b = some o) → Q (.ref s.heap.objs.size) { s with heap := h', toks := tk }) :
    wpAny (model P w) A (call (.type "set") [.ref l]) Q E s := by
  have hisz : items.size = ks.length := by
    have q := hi.length
    rw [List.length_map, Array.length_toList] at q
    exact q.symm
  obtain ⟨c, tl, hmro⟩ := PySem.F.called_set.mro
  have hmade := PySem.F.called_set.made
  have hsub := PySem.F.called_set.sub
  refine wpAny_call (codeAny_of_tree ?_)
  show wpAny _ _ (callAny (.type "set") _) _ _ _
  refine wpAny_pure ⟨Code.quiet_builtin _ (by decide +kernel), codeAny_builtin PySem.F.entry_type_call ?_⟩
  rw [Around.under_plain (weight_type_call_type "set" [.ref l] []) rfl]
  have h1 := PySem.F.called_set.notType
  have h2 := PySem.F.called_set.canCreate
  have hct := PySem.F.typeCall_set_1 (.ref l)
  repeat (any_goals (first | assumption | wp_step))
  refine codeAny_mono (code_set_new_1 (.ref l) (E := E) (Q₁ := fun obj s₁ => ∃ led : Bool, obj = .ref s.heap.objs.size ∧ s₁ = { s with heap := s.heap.push { cls := .type "set", dict := none, data := .set #[] 0 (.fresh 0 0 led) } }) fun led => ⟨led, rfl, rfl⟩) fun r s₁ hr => ?_
  cases r with
  | error e => exact hr
  | ok fl =>
    cases fl with
    | ret obj =>
      obtain ⟨led, rfl, rfl⟩ := hr
      obtain ⟨S0, eS0⟩ : ∃ S0 : Obj, S0 = { cls := .type "set", dict := none, data := .set #[] 0 (.fresh 0 0 led) } := ⟨_, rfl⟩
      rw [← eS0]
      have hS : (s.heap.push S0).get? s.heap.objs.size = some S0 := Heap.get?_push_size _ (by rw [eS0]; rfl)
      have hT : Shared.TypeIs { s with heap := s.heap.push S0 } (.ref s.heap.objs.size) "set" := ⟨_, hS, by rw [eS0]⟩
      have hli := PySem.F.called_set.init.lookup
      have hbi := PySem.F.called_set.init.bind (.ref s.heap.objs.size)
      repeat (any_goals (first | assumption | wp_step))
      refine codeAny_mono (codeAny_call_builtin (R := wants (fun r s₂ => r = .none ∧ ∃ h' tk, s₂ = { s with heap := h', toks := tk } ∧ h'.SetOf (mixKind P w) s.heap.objs.size (fun j => decide (j ∈ ks)) (onceK ks).length ∧ (∀ b o, s.heap.get? b = some o → h'.get? b = some o)) E) PySem.F.called_set.init.plain PySem.F.entry_set_init (check_set_init_1 hT ?_)) fun r₂ s₂ hr₂ => ?_
      · obtain ⟨ol, hol⟩ := hl.ob
        have hlS : l < s.heap.objs.size := Heap.lt_size hol
        have hl1 : IsSq b (s.heap.push S0) l items := hl.up fun o e => Heap.get?_push_of_some _ e
        have hh3 : A.in1.in1.in1.handled = none := by simp [hh]
        have hz : (s.heap.push S0).objs.size = s.heap.objs.size + 1 := Heap.size_push ..
        have hneI : l ≠ (s.heap.push S0).objs.size := by rw [hz]; exact Nat.ne_of_lt (Nat.lt_succ_of_lt hlS)
        have hSf : s.heap.objs.size ∉ [(s.heap.push S0).objs.size, l] := by
          rw [hz]
          intro m
          rcases List.mem_cons.mp m with m | m
          · exact absurd m (Nat.ne_of_lt (Nat.lt_succ_self _))
          · exact absurd (List.mem_singleton.mp m) (Nat.ne_of_gt hlS)
        have hval : ∀ (i : Nat) (v : Value), items[i]? = some v → ∃ k, ks[i]? = some k ∧ RelV (kV k) v := fun i v hv => by
          obtain ⟨x, hx, rx⟩ := vals_at hi (by rw [Array.getElem?_toList]; exact hv)
          rw [List.getElem?_map] at hx
          obtain ⟨k, hk', rfl⟩ := Option.map_eq_some_iff.mp hx
          exact ⟨k, hk', rx⟩
        have fin : ∀ G : Heap, G = (s.heap.push S0).push (itO b l) → codeAny (model P w) A.in1.in1 (.builtin "set.update.loop" ⟨[.ref s.heap.objs.size, .ref (s.heap.push S0).objs.size], []⟩) (fun r s' => r = .ok (.ret .none) ∧ ∃ h' tk, s' = { s with heap := h', toks := tk } ∧ h'.SetOf (mixKind P w) s.heap.objs.size (fun j => decide (j ∈ ks)) (onceK ks).length ∧ (∀ b o, s.heap.get? b = some o → h'.get? b = some o)) { s with heap := G } := by
          rintro G rfl
          have hit : IsIt b ((s.heap.push S0).push (itO b l)) (s.heap.push S0).objs.size l 0 := itO_is (Heap.get?_push_size _ (by unfold itO; rfl))
          refine set_upK ((walks_sq (P := P) (w := w) (A := A.in1.in1.in1) (by simp [hh]) (s.heap.push S0).objs.size l hneI items).toS) s.heap.objs.size hSf ks hisz hb hval (items.size - 0) 0 _ (by omega) (Nat.zero_le _) ⟨hit, hl1.up fun o e => Heap.get?_push_of_some _ e⟩ ?_ fun s' hm hS' => ?_
          · have hget : ((s.heap.push S0).push (itO b l)).get? s.heap.objs.size = some S0 := Heap.get?_push_of_some _ hS
            rw [eS0] at hget ⊢
            exact ⟨_, #[], 0, _, hget, ⟨rfl, rfl, rfl⟩, rfl, (fun e he => by simp at he), (fun k => ⟨fun z => absurd (of_decide_eq_true z) (show ¬ k ∈ ([] : List Key) from List.not_mem_nil), fun ⟨e, he, _⟩ => by simp at he⟩), (by decide), (by rfl), rfl⟩
          · obtain ⟨h', g', d', tk', os'⟩ := s'
            have eg : g' = s.gens := hm.gens
            have ed : d' = s.drawn := hm.drawn
            have eo : os' = s.os := hm.os
            subst eg; subst ed; subst eo
            refine ⟨rfl, h', tk', rfl, hS', fun c o e => hm.heap c o (fun m => ?_) (Heap.get?_push_of_some _ (Heap.get?_push_of_some _ e))⟩
            have lc := Heap.lt_size e
            rcases List.mem_cons.mp m with m | m
            · rw [m] at lc; exact Nat.lt_irrefl _ lc
            · rw [List.mem_singleton.mp m, hz] at lc; exact Nat.not_lt_of_le (Nat.le_succ _) lc
        have hsls := PySem.F.sub_list_set
        have hslf := PySem.F.sub_list_frozenset
        have hsls2 := PySem.F.sub_tuple_set
        have hslf2 := PySem.F.sub_tuple_frozenset
        have hne : (Value.type "list" == Value.type "dict") = false := by decide
        have hne2 : (Value.type "tuple" == Value.type "dict") = false := by decide
        subst eS0
        unfold Builtin.«set.__init__» noKeywords Builtin.Frozenset.updateFrom
        generalize hPI : pyIter = PI
        cases b
        · obtain ⟨ol, hol', hcl, nl, hdl⟩ := (show (s.heap.push _).IsList l items from hl1)
          obtain ⟨ocls, odict, odata, oslots⟩ := ol
          simp only at hcl hdl
          subst hcl; subst hdl
          wp_walk
          subst hPI
          refine pyIter_sq (s := { s with heap := s.heap.push _ }) (b := false) hl1 ?_
          refine wpAny_bind (wpAny_runValue ?_)
          refine codeAny_mono (fin _ rfl) fun r s' hr => ?_
          obtain ⟨rfl, h', tk, rfl, h3, h4⟩ := hr
          exact wpAny_pure (wpAny_pure ⟨rfl, h', tk, rfl, h3, h4⟩)
        · obtain ⟨ol, hol', hcl, nl, hdl⟩ := (show (s.heap.push _).IsTuple l items from hl1)
          obtain ⟨ocls, odict, odata, oslots⟩ := ol
          simp only at hcl hdl
          subst hcl; subst hdl
          wp_walk
          subst hPI
          refine pyIter_sq (s := { s with heap := s.heap.push _ }) (b := true) hl1 ?_
          refine wpAny_bind (wpAny_runValue ?_)
          refine codeAny_mono (fin _ rfl) fun r s' hr => ?_
          obtain ⟨rfl, h', tk, rfl, h3, h4⟩ := hr
          exact wpAny_pure (wpAny_pure ⟨rfl, h', tk, rfl, h3, h4⟩)
      · cases r₂ with
        | error e => exact hr₂
        | ok fl₂ =>
          cases fl₂ with
          | ret r =>
            obtain ⟨rfl, h', tk, rfl, hS', hk'⟩ := hr₂
            repeat (any_goals (first | assumption | wp_step))
            exact h _ _ hS' hk'
          | _ => exact hr₂.elim
    | _ => exact hr.elim
end
end VL
/-! V45: len(set(x)): the rule. -/
namespace VL
open PySem PySem.Spec L2
section
variable {X : Cx}
def rLSet (K : PySem.W.Frag) : List V → Hp → VK → Prop := fun vs H Q => ∃ (a : Addr) (b : Bool) (ks : List Key), vs = [.ref a] ∧ SqB K H b a (ks.map kV) ∧ ks.length ≤ 4000 ∧ Q (.int ((onceK ks).length : Nat)) H
variable {ks0 : List Sh} {W : WX} {e1 : Expr} {t : TA} {p p2 q pos : Pos}
theorem pe_lset (hc : X.calm = true) (hg : Gl X "len") (hm : X.mg "len" = none) (hg2 : Gl X "set") (hm2 : X.mg "set" = none) (ha : PA X [e1] t)
    (na : starEach [.Call (.Name "set" p2) [e1] [] q] X.env = (false, eval (.Call (.Name "set" p2) [e1] [] q) X.env) :: starEach [] X.env := by rfl)
    (he : starEach [e1] X.env = (false, eval e1 X.env) :: starEach [] X.env := by rfl) :
    PE X (.Call (.Name "len" p) [.Call (.Name "set" p2) [e1] [] q] [] pos) (tCB (rLSet X.K) t) := by
  refine ⟨fun pins s σ H Q I h => ?_⟩
  refine PyProof.Rows.Call_ (ld_blt I hg hm PySem.boot_len ?_)
  refine PyProof.Rows.callWith_builtin1 (PyProof.Rows.args_cons ?_ na) na rfl
  refine PyProof.Rows.Call_ (ld_blt I hg2 hm2 PyProof.Rows.boot_set ?_)
  refine PyProof.Rows.callWith_type1 (thn (ha.run q pins s σ H _ I h) fun us s1 ⟨vs, H1, I1, r1, q1⟩ => ?_) he rfl
  obtain ⟨a, b, ks, rfl, hq, hl, q1⟩ := q1
  cases r1 with
  | cons ra rr =>
  cases rr
  cases ra
  obtain ⟨its, rv, pl, hz⟩ := VL.Inv.sqB I1 hq
  refine call_setK (I1.ok.hd hc) pl (ks := ks) (by simpa using rv) (by unfold scanBound; omega) fun h' tk hS hk => ?_
  refine PyProof.Rows.args_nil ?_
  obtain ⟨o, es, ep, t, ho, hex, hd, _, _, _, hf, hn⟩ := hS
  have I2 : Inv X pins σ H1 { s1 with heap := h', toks := tk } := I1.kept hk
  have hl2 := onceK_len ks
  refine call_len_set ho hex hd hf (by rw [hn]; omega) ⟨.int ((onceK ks).length : Nat), H1, I2.tok _, ⟨_, by rw [hn]⟩, q1⟩
def lsetD : D → Option D := fun d => d.mem.bind fun ds => (keyTs ds).bind fun ks => if ks.length ≤ 4000 then some (.int ((onceK ks).length : Nat)) else none
theorem s_lset {K : PySem.W.Frag} : OpN K .leaf (rLSet K) (one lsetD) := by
  refine s_one fun F H x d z Q sm hx ez ok => ?_
  unfold lsetD at ez
  cases m1 : d.mem with
  | none => rw [m1] at ez; cases ez
  | some ds =>
  rw [m1, Option.bind_some] at ez
  cases k1 : keyTs ds with
  | none => rw [k1] at ez; cases ez
  | some ks =>
  rw [k1, Option.bind_some] at ez
  by_cases hl : ks.length ≤ 4000
  · rw [if_pos hl] at ez
    cases ez
    obtain ⟨p, vs, rfl, q1, r1⟩ := hx.memE sm m1
    have ev := keyTsE r1 k1
    subst ev
    rcases q1 with q1 | q1
    · exact ⟨p, false, ks, rfl, q1, hl, ok.here sm (.int _)⟩
    · exact ⟨p, true, ks, rfl, q1, hl, ok.here sm (.int _)⟩
  · rw [if_neg hl] at ez; cases ez
theorem ev_lset {mo : DEnv → R (List Opd)} (K : PySem.W.Frag) (hK : X.K = K) (hc : X.calm = true) (ha : EOs X ks0 W [e1] t mo) (hm : X.mg "len" = none) (hm2 : X.mg "set" = none) (hg : Gl X "len" := by rfl) (hg2 : Gl X "set" := by rfl)
    (na : starEach [.Call (.Name "set" p2) [e1] [] q] X.env = (false, eval (.Call (.Name "set" p2) [e1] [] q) X.env) :: starEach [] X.env := by rfl)
    (he : starEach [e1] X.env = (false, eval e1 X.env) :: starEach [] X.env := by rfl) :
    EV X ks0 W (.Call (.Name "len" p) [.Call (.Name "set" p2) [e1] [] q] [] pos) .leaf (tCB (rLSet K) t) (mOpN (one lsetD) mo) := by
  subst hK
  exact ⟨pe_lset hc hg hm hg2 hm2 ha.pe na he, snd_opN (b := bd X ks0 W) s_lset ha.sd⟩
end
theorem keyTs_strs : ∀ l : List Str, keyTs (l.map .str) = some (l.map Sum.inr)
  | [] => rfl
  | x :: l => by
    show ((keyK (.str x)).bind fun k => (keyTs (l.map .str)).bind fun ks => some (k :: ks)) = _
    rw [keyTs_strs l]; rfl
theorem nodup_inr {l : List Str} : (l.map (Sum.inr : Str → Key)).Nodup ↔ l.Nodup := by
  constructor
  · intro h
    exact List.Pairwise.of_map _ (fun _ _ hne e => hne (congrArg _ e)) h
  · intro h
    exact List.Pairwise.map _ (fun _ _ hne e => hne (Sum.inr.inj e)) h
theorem lset_strs (l : List Str) (h : l.length ≤ 4000) : ∃ n : Nat, lsetD (.tup (l.map .str)) = some (.int n) ∧ (n = l.length ↔ l.Nodup) := by
  refine ⟨(onceK (l.map Sum.inr)).length, ?_, ?_⟩
  · show (keyTs (l.map .str)).bind _ = _
    rw [keyTs_strs, Option.bind_some, if_pos (by rw [List.length_map]; exact h)]
  · rw [← nodup_inr]
    constructor
    · intro e
      refine Decidable.byContradiction fun hn => ?_
      have := onceK_lt (fun z => hn z)
      rw [List.length_map] at this
      omega
    · intro hn
      rw [onceK_nodup hn, List.length_map]
end VL
/-! V46: a call that borrows owned lists: what is told is an atom, the lists stay the caller's own. -/
namespace VL
open PySem PySem.Spec L2
def atomD : D → Bool
  | .non => true | .bl _ => true | .int _ => true
  | _ => false
theorem atom_rep {K : PySem.W.Frag} {F F' : Hp} {v : V} {d : D} (h : atomD d = true) (r : Rep K F v d) : Rep K F' v d := by
  cases r <;> first | (cases h; done) | constructor
def lentO (ρ : DEnv) : Opd → Bool
  | .v _ => true
  | .s i => match ρ[i]? with
    | some (some (.lst _)) => true
    | _ => false
def mCallB (n : Nat) (g : List D → R D) (mo : DEnv → R (List Opd)) : ME := fun ρ => (mo ρ).bind fun os ρ1 => match getAll os ρ1 with
  | some ds => if ds.length = n ∧ os.all (lentO ρ1) = true then (match g ds with
    | .ok d _ => if atomD d = true then .ok d ρ1 else .no
    | _ => .no) else .no
  | none => .no
def lend (F H : Hp) (fv : List Addr) : Hp := fun a => if a ∈ fv then H a else F a
def unlend (F : Hp) (fv : List Addr) : Hp := fun a => if a ∈ fv then none else F a
section
variable {b : Bd} {F H : Hp} {σ : St} {fp : List Addr}
theorem lent_reps {ρ : DEnv} (r : Rel b.K b.ks F H ρ σ fp) : ∀ {os : List Opd} {vs : List V} {ds : List D}, Paired (fun o v => OpdOk b F σ v o) os vs → getAll os ρ = some ds → os.all (lentO ρ) = true →
    ∃ fv : List Addr, (∀ a ∈ fv, F a = none ∧ ∃ xs, H a = some (.lst xs)) ∧ ∀ F', Same F F' → (∀ a ∈ fv, F' a = H a) → Reps b.K F' vs ds
  | _, _, _, .nil, e, _ => by
    cases e
    exact ⟨[], by simp, fun _ _ _ => .nil⟩
  | o :: os, v :: vs, ds, .cons h t, e, hl => by
    rw [List.all_cons, Bool.and_eq_true] at hl
    unfold getAll at e
    cases e1 : o.get ρ with
    | none => rw [e1] at e; cases e
    | some d =>
      cases e2 : getAll os ρ with
      | none => rw [e1, e2] at e; cases e
      | some ds' =>
        rw [e1, e2] at e
        cases e
        obtain ⟨fv, q1, q2⟩ := lent_reps r t e2 hl.2
        cases o with
        | v d0 =>
          cases e1
          exact ⟨fv, q1, fun F' s m => .cons ((show Rep b.K F v _ from h).mono s) (q2 F' s m)⟩
        | s i =>
          obtain ⟨h1, h2⟩ := (show σ[i]? = some (some v) ∧ (b.ks[i]? = some (.lst .leaf) ∨ b.ks[i]? = some (.dic .leaf)) from h)
          have e3 : ρ[i]? = some (some d) := getE e1
          have hd : (match ρ[i]? with
            | some (some (.lst _)) => true
            | _ => false) = true := hl.1
          rw [e3] at hd
          cases d with
          | lst xs =>
            rcases h2 with h2 | h2
            · obtain ⟨v', f, g, s1, o1, _, _⟩ := r.sl.split h2 e3
              rw [h1] at s1
              cases s1
              cases o1 with
              | lst n1 n2 n3 =>
                obtain ⟨n4, _⟩ := n3.leafE
                refine ⟨_ :: fv, fun a m => ?_, fun F' s m => .cons (.lst ((m _ List.mem_cons_self).trans n2) (n4.mono s)) (q2 F' s fun a n => m a (List.mem_cons_of_mem _ n))⟩
                rcases List.mem_cons.mp m with rfl | m
                · exact ⟨n1, _, n2⟩
                · exact q1 a m
            · obtain ⟨v', f, g, s1, o1, _, _⟩ := r.sl.split h2 e3
              cases o1
          | _ => cases hd
variable {t : TA} {n : Nat} {g : List D → R D} {W : WX} {mo : DEnv → R (List Opd)}
theorem snd_callB {b : Bd} (hW : b.W = W) (ha : SndOs b t mo) : SndE b .leaf (tCallS (spV b.K b.mg n (leaves n) 0 .leaf g) (WE W) t) (mCallB n g mo) := by
  intro ρ σ F H fp Q r hok
  refine ha.go r (Ok := OkE b .leaf F H fp σ Q) hok (fun z => z) (fun _ _ z => z) fun os ρ1 vs F1 H1 fp1 h1 r1 x1 p1 => ?_
  cases e1 : getAll os ρ1 with
  | none => rw [e1] at h1; exact (show False from h1).elim
  | some ds =>
    rw [e1] at h1
    dsimp only at h1
    by_cases hn : ds.length = n ∧ os.all (lentO ρ1) = true
    · rw [if_pos hn] at h1
      obtain ⟨fv, q1, q2⟩ := lent_reps r1 p1 e1 hn.2
      have l_in : ∀ a ∈ fv, lend F1 H1 fv a = H1 a := fun a m => if_pos m
      have l_out : ∀ a, a ∉ fv → lend F1 H1 fv a = F1 a := fun a m => if_neg m
      have sm : Same F1 (lend F1 H1 fv) := fun a o e => by
        rw [l_out a fun m => by rw [(q1 a m).1] at e; cases e]
        exact e
      have rp := q2 _ sm l_in
      have sb : Sub (lend F1 H1 fv) H1 := ⟨fun a o e => by
        by_cases m : a ∈ fv
        · rw [l_in a m] at e; exact e
        · rw [l_out a m] at e; exact r1.sub a o e, fun a xs e => by
        by_cases m : a ∈ fv
        · obtain ⟨_, ys, z⟩ := q1 a m
          rw [e] at z; cases z
        · rw [l_out a m]; exact r1.sub.tp a xs e⟩
      refine ⟨by rw [rp.length]; exact hn.1, lend F1 H1 fv, [], ds, ⟨sb, List.nodup_nil, by rw [← hn.1]; exact relL_leaves rp⟩, ?_⟩
      cases eg : g ds with
      | no => rw [eg] at h1; exact (show False from h1).elim
      | ex y ρ' => rw [eg] at h1; exact (show False from h1).elim
      | ok d ρ' =>
        rw [eg] at h1
        dsimp only at h1
        by_cases hd : atomD d = true
        · rw [if_pos hd] at h1
          intro v F2 H2 fp' fv2 r' nd x o
          obtain ⟨rd, ef⟩ := o.leafE
          subst ef
          have h2 := OkE.ext x1 h1
          have kp : ∀ a o, H1 a = some o → H2 a = some o ∧ F2 a = lend F1 H1 fv a := fun a o z => x.keep a o z (by simp)
          have ac : Alc F1 H1 (unlend F2 fv) H2 := by
            refine ⟨⟨fun a o e => ?_, fun a xs e => ?_⟩, fun a o z => ⟨(kp a o z).1, ?_⟩⟩
            · unfold unlend at e
              by_cases m : a ∈ fv
              · rw [if_pos m] at e; cases e
              · rw [if_neg m] at e; exact r'.sub a o e
            · unfold unlend
              by_cases m : a ∈ fv
              · obtain ⟨_, ys, z⟩ := q1 a m
                have := (kp a _ z).1
                rw [e] at this; cases this
              · rw [if_neg m]; exact r'.sub.tp a xs e
            · unfold unlend
              by_cases m : a ∈ fv
              · rw [if_pos m, (q1 a m).1]
              · rw [if_neg m, (kp a o z).2, l_out a m]
          obtain ⟨r2, nd2, x2⟩ := ac.rel (fv := []) r1 (fun y m => by simp at m) List.nodup_nil
          exact h2 v (unlend F2 fv) H2 fp1 [] r2 nd2 x2 (.leaf (atom_rep hd rd))
        · rw [if_neg hd] at h1; exact (show False from h1).elim
    · rw [if_neg hn] at h1; exact (show False from h1).elim
end
section
variable {X : Cx} {CX : CXT} {k n : Nat} {x : Str} {g : List D → R D} {ks : List Sh} {W : WX} {e : Expr} {es : List Expr} {p pos : Pos} {t : TA} {mo : DEnv → R (List Opd)}
theorem kv_callB (K : PySem.W.Frag) (hK : X.K = K) (mg : Str → Option Value) (hmg : X.mg = mg) (c : Cl X CX k x n (leaves n) 0 .leaf g) (hx : ∀ σ, PassesAt CX X σ (WE W σ)) (hr : Room k X.A) (hgd : X.A.guards = some []) (ha : EOs X ks W (e :: es) t mo) (hg : Gl X x := by rfl) (hdb : (x == ("__debug__" : Str)) = false := by decide)
    (he : starEach (e :: es) X.env = (false, eval e X.env) :: starEach es X.env := by rfl) (hpl : (backTo pos (starEach es X.env)).any (·.1) = false := by rfl) : EV X ks W (.Call (.Name x p) (e :: es) [] pos) .leaf (tCallS (spV K mg n (leaves n) 0 .leaf g) (WE W) t) (mCallB n g mo) := by
  subst hK hmg
  obtain ⟨f, fd, ps, G, hm, hk, hb⟩ := c.ex
  exact ⟨pe_callG G hr hgd hg hm hk hb hx ha.pe hdb he hpl, snd_callB (b := bd X ks W) rfl ha.sd⟩
end
@[simp] theorem e_callB (n : Nat) (g : List D → R D) (mo : DEnv → R (List Opd)) (ρ : DEnv) : mCallB n g mo ρ = (mo ρ).bind fun os ρ1 => match getAll os ρ1 with
  | some ds => if ds.length = n ∧ os.all (lentO ρ1) = true then (match g ds with
    | .ok d _ => if atomD d = true then .ok d ρ1 else .no
    | _ => .no) else .no
  | none => .no := rfl
end VL
set_option maxHeartbeats 1000000
/-! V47: instances owned by a slot: their fields found, changed, hidden while another part is reckoned. -/
namespace VL
open PySem PySem.Spec L2
section
variable {K : PySem.W.Frag} {F H : Hp}
theorem OF.names : ∀ {sf : List (Str × Sh)} {fv : List (Str × V)} {fd : List (Str × D)} {fp : List Addr}, OF K F H sf fv fd fp → fv.map Prod.fst = fd.map Prod.fst ∧ ∃ r, sf.map Prod.fst = fd.map Prod.fst ++ r
  | sf, _, _, _, .nil => ⟨rfl, sf.map Prod.fst, rfl⟩
  | _, _, _, _, .cons _ t => by
    obtain ⟨h1, r, h2⟩ := OF.names t
    exact ⟨by rw [List.map_cons, List.map_cons, h1], r, by rw [List.map_cons, List.map_cons, h2]; rfl⟩
theorem OF.len {sf : List (Str × Sh)} {fv : List (Str × V)} {fd : List (Str × D)} {fp : List Addr} (h : OF K F H sf fv fd fp) : fv.length = fd.length ∧ fd.length ≤ sf.length := by
  obtain ⟨h1, r, h2⟩ := h.names
  have e1 := congrArg List.length h1
  have e2 := congrArg List.length h2
  simp only [List.length_map, List.length_append] at e1 e2
  omega
/-- the field number j -/
theorem OF.at_ {x : Str} {d : D} : ∀ {sf : List (Str × Sh)} {fv : List (Str × V)} {fd : List (Str × D)} {fp : List Addr} {j : Nat}, OF K F H sf fv fd fp → fd[j]? = some (x, d) →
    ∃ s v f g, sf[j]? = some (x, s) ∧ fv[j]? = some (x, v) ∧ OR K F H s v d f ∧ fp.Perm (f ++ g) ∧
      ∀ {F' H' : Hp} {v' : V} {d' : D} {f' : List Addr}, Same F F' → (∀ a ∈ g, F' a = none ∧ H' a = H a) → OR K F' H' s v' d' f' → ∃ fp', OF K F' H' sf (fv.set j (x, v')) (fd.set j (x, d')) fp' ∧ fp'.Perm (f' ++ g)
  | _, _, _, _, j, .nil, e => by simp at e
  | _, _, _, _, 0, .cons (f := f) (g := g) o t, e => by
    simp at e
    obtain ⟨rfl, rfl⟩ := e
    refine ⟨_, _, f, g, rfl, rfl, o, .rfl, fun s0 hg o' => ⟨_, .cons o' (t.frame s0 hg), .rfl⟩⟩
  | _, _, _, _, j + 1, .cons (f := f0) (g := g0) o t, e => by
    obtain ⟨s, v, f, g, h1, h2, h3, h4, h5⟩ := OF.at_ (j := j) t (by simpa using e)
    refine ⟨s, v, f, f0 ++ g, by simpa using h1, by simpa using h2, h3, ?_, fun {F' H' v' d' f'} s0 hg o' => ?_⟩
    · refine (List.Perm.append_left f0 h4).trans ?_
      rw [← List.append_assoc, ← List.append_assoc]
      exact List.Perm.append_right g List.perm_append_comm
    · obtain ⟨fp', q1, q2⟩ := h5 s0 (fun a m => hg a (List.mem_append_right _ m)) o'
      refine ⟨f0 ++ fp', .cons (o.frame s0 fun a m => hg a (List.mem_append_left _ m)) q1, ?_⟩
      refine (List.Perm.append_left f0 q2).trans ?_
      rw [← List.append_assoc, ← List.append_assoc]
      exact List.Perm.append_right g List.perm_append_comm
/-- a field more -/
theorem OF.snoc {x : Str} {s : Sh} {v : V} {d : D} {f : List Addr} (o : OR K F H s v d f) : ∀ {sf : List (Str × Sh)} {fv : List (Str × V)} {fd : List (Str × D)} {fp : List Addr}, OF K F H sf fv fd fp → sf[fd.length]? = some (x, s) → ∃ fp', OF K F H sf (fv ++ [(x, v)]) (fd ++ [(x, d)]) fp' ∧ fp'.Perm (f ++ fp)
  | [], _, _, _, .nil, e => by simp at e
  | (y, s') :: sf, _, _, _, .nil, e => by
    simp at e
    obtain ⟨rfl, rfl⟩ := e
    exact ⟨f ++ [], .cons o .nil, .rfl⟩
  | _, _, _, _, .cons (f := f0) (g := g0) o0 t, e => by
    obtain ⟨fp', q1, q2⟩ := OF.snoc o t (by simpa using e)
    refine ⟨f0 ++ fp', .cons o0 q1, ?_⟩
    refine (List.Perm.append_left f0 q2).trans ?_
    rw [← List.append_assoc, ← List.append_assoc]
    exact List.Perm.append_right g0 List.perm_append_comm
theorem fv_look {x : Str} {v : V} : ∀ {fv : List (Str × V)} {j : Nat}, (fv.map Prod.fst).Nodup → fv[j]? = some (x, v) → fv.lookup x = some v
  | [], j, _, e => by simp at e
  | (y, w) :: fv, 0, _, e => by
    simp at e
    obtain ⟨rfl, rfl⟩ := e
    simp [List.lookup]
  | (y, w) :: fv, j + 1, nd, e => by
    rw [List.map_cons, List.nodup_cons] at nd
    have m : x ∈ fv.map Prod.fst := List.mem_map.mpr ⟨(x, v), List.mem_of_getElem? (by simpa using e), rfl⟩
    have ne : (x == y) = false := beq_eq_false_iff_ne.mpr fun z => nd.1 (z ▸ m)
    rw [List.lookup, ne]
    exact fv_look nd.2 (by simpa using e)
theorem fv_no {x : Str} : ∀ {fv : List (Str × V)}, x ∉ fv.map Prod.fst → fv.lookup x = none
  | [], _ => rfl
  | (y, w) :: fv, h => by
    rw [List.map_cons, List.mem_cons, not_or] at h
    have ne : (x == y) = false := beq_eq_false_iff_ne.mpr h.1
    rw [List.lookup, ne]
    exact fv_no h.2
theorem putF_at {x : Str} {v v' : V} : ∀ {fv : List (Str × V)} {j : Nat}, (fv.map Prod.fst).Nodup → fv[j]? = some (x, v) → putF x v' fv = fv.set j (x, v')
  | [], j, _, e => by simp at e
  | (y, w) :: fv, 0, _, e => by
    simp at e
    obtain ⟨rfl, rfl⟩ := e
    unfold putF
    rw [if_pos rfl]; rfl
  | (y, w) :: fv, j + 1, nd, e => by
    rw [List.map_cons, List.nodup_cons] at nd
    have m : x ∈ fv.map Prod.fst := List.mem_map.mpr ⟨(x, v), List.mem_of_getElem? (by simpa using e), rfl⟩
    unfold putF
    have ne : ¬ y = x := fun z => nd.1 (by rw [z]; exact m)
    rw [if_neg ne, putF_at nd.2 (by simpa using e)]; rfl
theorem putF_no {x : Str} {v' : V} : ∀ {fv : List (Str × V)}, x ∉ fv.map Prod.fst → putF x v' fv = fv ++ [(x, v')]
  | [], _ => rfl
  | (y, w) :: fv, h => by
    rw [List.map_cons, List.mem_cons, not_or] at h
    unfold putF
    have ne : ¬ y = x := fun z => h.1 z.symm
    rw [if_neg ne, putF_no h.2]; rfl
end
section
variable {K : PySem.W.Frag} {ks : List Sh} {F H : Hp} {ρ : DEnv} {σ : St} {fp : List Addr} {i : Nat}
theorem Ext.weak {F1 H1 : Hp} {g g1 : List Addr} (x : Ext F H g F1 H1 g1) (s : ∀ a ∈ g, a ∈ fp) : Ext F H fp F1 H1 g1 := ⟨fun a o e n => x.keep a o e fun q => n (s a q), fun a m => (x.fr a m).imp (s a) id⟩
/-- a slot hidden while another part is reckoned, and shown again -/
theorem Rel.hide {s : Sh} {d : D} (r : Rel K ks F H ρ σ fp) (hk : ks[i]? = some s) (e : ρ[i]? = some (some d)) :
    ∃ v f g, σ[i]? = some (some v) ∧ OR K F H s v d f ∧ Rel K ks F H (ρ.set i none) σ g ∧ (∀ a ∈ g, a ∈ fp) ∧ ∀ {F1 H1 : Hp} {ρ1 : DEnv} {g1 : List Addr}, Rel K ks F1 H1 ρ1 σ g1 → Ext F H g F1 H1 g1 →
      OR K F1 H1 s v d f ∧ (∀ a ∈ f, F1 a = none ∧ H1 a = H a) ∧ ∃ fp1, Rel K ks F1 H1 (ρ1.set i (some d)) σ fp1 ∧ Ext F H fp F1 H1 fp1 := by
  obtain ⟨v, f, g, s1, o1, sl, pm⟩ := r.sl.split hk e
  have nda := List.nodup_append.mp (pm.nodup_iff.mp r.nd)
  refine ⟨v, f, g, s1, o1, ⟨r.sub, nda.2.1, sl⟩, fun y m => pm.symm.subset (List.mem_append_right _ m), fun {F1 H1 ρ1 g1} r1 x1 => ?_⟩
  have f_in : ∀ y ∈ f, y ∈ fp := fun y m => pm.symm.subset (List.mem_append_left _ m)
  have g_in : ∀ y ∈ g, y ∈ fp := fun y m => pm.symm.subset (List.mem_append_right _ m)
  have fk : ∀ a ∈ f, F1 a = none ∧ H1 a = H a := fun a m => by
    obtain ⟨n, o, ho⟩ := o1.own a m
    obtain ⟨k1, k2⟩ := x1.keep a o ho fun q => nda.2.2 a m a q rfl
    exact ⟨k2.trans n, k1.trans ho.symm⟩
  have sm : Same F F1 := x1.same r.sub fun a m => (sl.own a m).1
  have o2 := o1.frame sm fk
  obtain ⟨g2, w1, w2⟩ := r1.sl.wipe1 i
  obtain ⟨fp1, j1, j2⟩ := RelL.join o2 w1 hk s1
  have dis : ∀ a ∈ f, a ∉ g2 := fun a m q => by
    obtain ⟨_, o, ho⟩ := o1.own a m
    rcases x1.fr a (w2.subset q) with z | z
    · exact nda.2.2 a m a z rfl
    · rw [z] at ho; cases ho
  refine ⟨o2, fk, fp1, ⟨r1.sub, j2.nodup_iff.mpr (List.nodup_append.mpr ⟨nda.1, r1.nd.sublist w2, fun a m b q z => dis a m (z ▸ q)⟩), j1⟩, ⟨fun a o ho n => x1.keep a o ho fun q => n (g_in a q), fun a m => ?_⟩⟩
  rcases List.mem_append.mp (j2.subset m) with m | m
  · exact .inl (f_in a m)
  · exact (x1.fr a (w2.subset m)).imp (g_in a) id
/-- the instance of a slot, and how it is changed: cells f of it are given up for f' -/
theorem Rel.inst {C : Addr} {sf : List (Str × Sh)} {d : D} (r : Rel K ks F H ρ σ fp) (hk : ks[i]? = some (.ins C sf)) (e : ρ[i]? = some (some d)) :
    ∃ c fd p dx fv fi, d = .ob c fd ∧ σ[i]? = some (some (.ref p)) ∧ F p = none ∧ F dx = none ∧ H p = some (.ins C dx fv) ∧ H dx = some (.own p) ∧ OF K F H sf fv fd fi ∧ p ∉ fi ∧ dx ∉ fi ∧ p ≠ dx ∧ fi.Nodup ∧ (∀ a ∈ fi, a ∈ fp) ∧ p ∈ fp ∧
      ∀ {F' H' : Hp} {fv' : List (Str × V)} {fd' : List (Str × D)} {fi' : List Addr}, Sub F' H' → Same F F' → F' p = none → F' dx = none → H' p = some (.ins C dx fv') → H' dx = some (.own p) → OF K F' H' sf fv' fd' fi' → fi'.Nodup → (∀ a ∈ fi', a ∈ fi ∨ a ∉ fp) →
        (∀ a o, H a = some o → a ≠ p → a ∉ fi → F' a = F a ∧ H' a = some o) → ∃ gp, Rel K ks F' H' (ρ.set i (some (.ob c fd'))) σ gp ∧ (∀ a o, H a = some o → a ∉ fp → H' a = some o ∧ F' a = F a) ∧ ∀ a ∈ gp, a ∈ fp ∨ a ∈ fi' := by
  obtain ⟨v, f, g, s1, o1, sl, pm⟩ := r.sl.split hk e
  cases o1 with
  | @ins _ p dx c _ fv fd fi np ndx hp hdx of =>
    have nd := pm.nodup_iff.mp r.nd
    have nda := List.nodup_append.mp nd
    obtain ⟨n1, n2⟩ := List.nodup_cons.mp nda.1
    obtain ⟨n3, n4⟩ := List.nodup_cons.mp n2
    have pdx : p ≠ dx := fun z => n1 (z ▸ List.mem_cons_self)
    have pfi : p ∉ fi := fun m => n1 (List.mem_cons_of_mem _ m)
    have inp : ∀ a ∈ p :: dx :: fi, a ∈ fp := fun a m => pm.symm.subset (List.mem_append_left _ m)
    have ing : ∀ a ∈ g, a ∈ fp := fun a m => pm.symm.subset (List.mem_append_right _ m)
    refine ⟨c, fd, p, dx, fv, fi, rfl, s1, np, ndx, hp, hdx, of, pfi, n3, pdx, n4, fun a m => inp a (List.mem_cons_of_mem _ (List.mem_cons_of_mem _ m)), inp p List.mem_cons_self, fun {F' H' fv' fd' fi'} sb sm np' ndx' hp' hdx' of' nfi' ffi' kp => ?_⟩
    have gk : ∀ a ∈ g, F' a = none ∧ H' a = H a := fun a m => by
      obtain ⟨n, o, ho⟩ := sl.own a m
      have a1 : a ≠ p := fun z => nda.2.2 p List.mem_cons_self a m z.symm
      have a2 : a ∉ fi := fun q => nda.2.2 a (List.mem_cons_of_mem _ (List.mem_cons_of_mem _ q)) a m rfl
      obtain ⟨k1, k2⟩ := kp a o ho a1 a2
      exact ⟨k1.trans n, k2.trans ho.symm⟩
    have o2 : OR K F' H' (.ins C sf) (.ref p) (.ob c fd') (p :: dx :: fi') := .ins np' ndx' hp' hdx' of'
    obtain ⟨gp, j1, j2⟩ := RelL.join o2 (sl.frame sm gk) hk s1
    have nfi : ∀ a ∈ fi', a ≠ p ∧ a ≠ dx ∧ a ∉ g := fun a m => by
      rcases ffi' a m with q | q
      · exact ⟨fun z => pfi (z ▸ q), fun z => n3 (z ▸ q), fun q2 => nda.2.2 a (List.mem_cons_of_mem _ (List.mem_cons_of_mem _ q)) a q2 rfl⟩
      · exact ⟨fun z => q (z ▸ inp p List.mem_cons_self), fun z => q (z ▸ inp dx (List.mem_cons_of_mem _ List.mem_cons_self)), fun q2 => q (ing a q2)⟩
    have ndo : (p :: dx :: fi').Nodup := List.nodup_cons.mpr ⟨fun m => by
      rcases List.mem_cons.mp m with z | m
      · exact pdx z
      · exact (nfi p m).1 rfl, List.nodup_cons.mpr ⟨fun m => (nfi dx m).2.1 rfl, nfi'⟩⟩
    refine ⟨gp, ⟨sb, j2.nodup_iff.mpr (List.nodup_append.mpr ⟨ndo, nda.2.1, fun a m b q z => ?_⟩), j1⟩, fun a o ho n => ?_, fun a m => ?_⟩
    · subst z
      rcases List.mem_cons.mp m with z | m
      · exact nda.2.2 p List.mem_cons_self a q z.symm
      · rcases List.mem_cons.mp m with z | m
        · exact nda.2.2 dx (List.mem_cons_of_mem _ List.mem_cons_self) a q z.symm
        · exact (nfi a m).2.2 q
    · obtain ⟨k1, k2⟩ := kp a o ho (fun z => n (z ▸ inp p List.mem_cons_self)) fun q => n (inp a (List.mem_cons_of_mem _ (List.mem_cons_of_mem _ q)))
      exact ⟨k2, k1⟩
    · rcases List.mem_append.mp (j2.subset m) with m | m
      · rcases List.mem_cons.mp m with rfl | m
        · exact .inl (inp _ List.mem_cons_self)
        · rcases List.mem_cons.mp m with rfl | m
          · exact .inl (inp _ (List.mem_cons_of_mem _ List.mem_cons_self))
          · exact .inr m
      · exact .inl (ing a m)
end
end VL
set_option maxHeartbeats 1000000
/-! V48: the fields of an owned instance: read, asked, changed. -/
namespace VL
open PySem PySem.Spec L2
def fldD (j : Nat) : D → Option (Str × D)
  | .ob _ fs => fs[j]?
  | _ => none
def withF (j : Nat) (x : Str) (d : D) : D → D
  | .ob c fs => .ob c (fs.set j (x, d))
  | d0 => d0
def putFd (j : Nat) (x : Str) (d : D) : D → Option D
  | .ob c fs => if j < fs.length then some (.ob c (fs.set j (x, d))) else if j = fs.length then some (.ob c (fs ++ [(x, d)])) else none
  | _ => none
def mFd (i j : Nat) : ME := fun ρ => R.of ((own ρ i).bind fun o => (fldD j o).map Prod.snd) ρ
theorem OF.nd {K : PySem.W.Frag} {F H : Hp} {sf : List (Str × Sh)} {fv : List (Str × V)} {fd : List (Str × D)} {fp : List Addr} (h : OF K F H sf fv fd fp) (nd : (sf.map Prod.fst).Nodup) : (fv.map Prod.fst).Nodup := by
  obtain ⟨e1, r, e2⟩ := h.names
  rw [e1]
  rw [e2] at nd
  exact (List.nodup_append.mp nd).1
/-- a thing looked at where it stands, at once -/
def OkL (b : Bd) (F H : Hp) (fp : List Addr) (σ : St) (Q : VK) : R D → Prop
  | .no => False
  | .ok d ρ' => ∀ v F' H' fp', Rel b.K b.ks F' H' ρ' σ fp' → Ext F H fp F' H' fp' → Vw b.K F' H' v d → Q v H'
  | .ex e ρ' => OkX b F H fp σ e ρ'
def SndL (b : Bd) (t : TE) (m : ME) : Prop := ∀ ρ σ F H fp Q, Rel b.K b.ks F H ρ σ fp → OkL b F H fp σ Q (m ρ) → t σ H Q
structure EL (X : Cx) (ks : List Sh) (W : WX) (e : Expr) (t : TE) (m : ME) : Prop where
  pe : PE X e t
  sd : SndL (bd X ks W) t m
theorem SndL.go {b : Bd} {t : TE} {P : VK} {ρ : DEnv} {σ : St} {F H : Hp} {fp : List Addr} {m : ME} (h : SndL b t m) (r : Rel b.K b.ks F H ρ σ fp) {α : Type} {f : D → DEnv → R α} {Ok : R α → Prop} (hok : Ok ((m ρ).bind f)) (hn : ¬ Ok .no) (hx : ∀ e ρ1, Ok (.ex e ρ1) → OkX b F H fp σ e ρ1)
    (k : ∀ d ρ1 v F1 H1 fp1, Ok (f d ρ1) → Rel b.K b.ks F1 H1 ρ1 σ fp1 → Ext F H fp F1 H1 fp1 → Vw b.K F1 H1 v d → P v H1) : t σ H P := by
  refine h ρ σ F H fp P r ?_
  cases e : m ρ with
  | no => rw [e] at hok; exact (hn hok).elim
  | ex x ρ1 => rw [e] at hok; exact hx _ _ hok
  | ok d ρ1 =>
    rw [e] at hok
    intro v F1 H1 fp1 r1 x1 o1
    exact k d ρ1 v F1 H1 fp1 hok r1 x1 o1
/-- how an owned thing is viewed -/
theorem OR.vw {K : PySem.W.Frag} {F H : Hp} {s : Sh} {v : V} {d : D} {f : List Addr} (o : OR K F H s v d f) (hs : s = .leaf ∨ s = .lst .leaf ∨ s = .dic .leaf) : Vw K F H v d := by
  rcases hs with rfl | rfl | rfl
  · obtain ⟨r, _⟩ := o.leafE; exact .rep r
  · cases o with
    | lst a c q => obtain ⟨q1, _⟩ := q.leafE; exact .lst c q1
  · cases o with
    | dK a c k q => obtain ⟨q1, _⟩ := q.leafE; exact .dK c k q1
    | dT a c k q => obtain ⟨q1, _⟩ := q.leafE; exact .dT c k q1
section
variable {X : Cx} {ks : List Sh} {W : WX} {y f : Str} {p pos pos' p3 : Pos} {C : Addr} {sf : List (Str × Sh)} {s : Sh}
/-- what holds of a field at the moment -/
theorem fld_of {b : Bd} {ρ : DEnv} {σ : St} {F H : Hp} {fp : List Addr} {i j : Nat} {d : D} (r : Rel b.K b.ks F H ρ σ fp) (hk : b.ks[i]? = some (.ins C sf)) (hs : sf[j]? = some (f, s)) (nd : (sf.map Prod.fst).Nodup) (e : ((own ρ i).bind fun o => (fldD j o).map Prod.snd) = some d) :
    ∃ p dx fv v f0, σ[i]? = some (some (.ref p)) ∧ H p = some (.ins C dx fv) ∧ fv.lookup f = some v ∧ OR b.K F H s v d f0 := by
  cases e1 : own ρ i with
  | none => rw [e1] at e; cases e
  | some o =>
    rw [e1, Option.bind_some] at e
    obtain ⟨c, fd, p, dx, fv, fi, rfl, s1, np, ndx, hp, hdx, of, _⟩ := r.inst hk (getE e1)
    obtain ⟨⟨x, d'⟩, e2, rfl⟩ := Option.map_eq_some_iff.mp e
    obtain ⟨s', v, f0, g, h1, h2, h3, _⟩ := of.at_ (show fd[j]? = some (x, d') from e2)
    rw [hs] at h1
    cases h1
    exact ⟨p, dx, fv, v, f0, s1, hp, fv_look (of.nd nd) h2, h3⟩
theorem ev_fldO (i j : Nat) (cl : Cls X.K C) (na : NoAttr X.K C f) (hs : sf[j]? = some (f, .leaf) := by rfl) (nd : (sf.map Prod.fst).Nodup := by decide) (hk : ks[i]? = some (.ins C sf) := by rfl) (hN : X.N[i]? = some y := by rfl)
    (hvi : Vis X.env.scope y := by first | exact Or.inl rfl | exact Or.inr (Or.inl rfl) | exact Or.inr (Or.inr rfl)) (hd : (y == ("__debug__" : Str)) = false := by decide) (hcd : (y == ("__classdict__" : Str)) = false := by decide)
    (hb : attributeBase (.Name y p) f X.env (eval (.Name y p) X.env) = eval (.Name y p) X.env := by rfl) : EV X ks W (.Attribute (.Name y p) f pos) .leaf (tFld X.K (tVar i) f) (mFd i j) := by
  refine ⟨pe_fld (pe_var hN hvi hd hcd) hb, fun ρ σ F H fp Q r hok => ?_⟩
  unfold mFd at hok
  cases e : ((own ρ i).bind fun o => (fldD j o).map Prod.snd) with
  | none => rw [e] at hok; exact (show False from hok).elim
  | some d =>
    rw [e] at hok
    obtain ⟨p, dx, fv, v, f0, s1, hp, hl, o⟩ := fld_of r hk hs nd e
    obtain ⟨rp, rfl⟩ := o.leafE
    exact ⟨.ref p, s1, p, C, dx, fv, v, rfl, hp, cl, na, hl, hok v F H fp [] r (by rw [List.append_nil]; exact r.nd) (by rw [List.append_nil]; exact .refl) (.leaf rp)⟩
theorem el_fld (i j : Nat) (cl : Cls X.K C) (na : NoAttr X.K C f) (hsh : s = .leaf ∨ s = .lst .leaf ∨ s = .dic .leaf) (hs : sf[j]? = some (f, s) := by rfl) (nd : (sf.map Prod.fst).Nodup := by decide) (hk : ks[i]? = some (.ins C sf) := by rfl) (hN : X.N[i]? = some y := by rfl)
    (hvi : Vis X.env.scope y := by first | exact Or.inl rfl | exact Or.inr (Or.inl rfl) | exact Or.inr (Or.inr rfl)) (hd : (y == ("__debug__" : Str)) = false := by decide) (hcd : (y == ("__classdict__" : Str)) = false := by decide)
    (hb : attributeBase (.Name y p) f X.env (eval (.Name y p) X.env) = eval (.Name y p) X.env := by rfl) : EL X ks W (.Attribute (.Name y p) f pos) (tFld X.K (tVar i) f) (mFd i j) := by
  refine ⟨pe_fld (pe_var hN hvi hd hcd) hb, fun ρ σ F H fp Q r hok => ?_⟩
  unfold mFd at hok
  cases e : ((own ρ i).bind fun o => (fldD j o).map Prod.snd) with
  | none => rw [e] at hok; exact (show False from hok).elim
  | some d =>
    rw [e] at hok
    obtain ⟨p, dx, fv, v, f0, s1, hp, hl, o⟩ := fld_of r hk hs nd e
    exact ⟨.ref p, s1, p, C, dx, fv, v, rfl, hp, cl, na, hl, hok v F H fp r .refl (o.vw hsh)⟩
def mOp2L (f : D → D → Option D) (a : MO) (m : ME) : ME := fun ρ => (a ρ).bind fun x ρ1 => (m ρ1).bind fun e ρ2 => R.of ((x.get ρ2).bind fun d => f d e) ρ2
theorem snd_op2L {b : Bd} {sh : Sh} {ta tb : TE} {r : R2} {f : D → D → Option D} {a : MO} {c : ME} (ho : Op2 b.K sh r f) (ha : SndO b ta a) (hc : SndL b tb c) : SndE b sh (tOp r ta tb) (mOp2L f a c) := by
  intro ρ σ F H fp Q r0 hok
  refine ha.go r0 (Ok := OkE b sh F H fp σ Q) hok (fun z => z) (fun _ _ z => z) fun x ρ1 v F1 H1 fp1 h1 r1 x1 o1 => ?_
  refine hc.go r1 (Ok := OkE b sh F1 H1 fp1 σ Q) (h1.ext x1) (fun z => z) (fun _ _ z => z) fun e ρ2 u F2 H2 fp2 h2 r2 x2 o2 => ?_
  have o1' := o1.mono (r1.same x2)
  cases e1 : x.get ρ2 with
  | none => rw [e1] at h2; exact (show False from h2).elim
  | some d =>
    cases e3 : f d e with
    | none => rw [e1, Option.bind_some, e3] at h2; exact (show False from h2).elim
    | some z =>
      rw [e1, Option.bind_some, e3] at h2
      exact ho F2 H2 v u d e z Q r2.sub (o1'.vw r2 e1) o2 e3 ((h2.ext x2).done r2)
variable {a c : Expr} {ta tc : TE} {sh : Sh}
theorem ev_cmpL {op : CmpOp} {r : R2} {f : D → D → Option D} {mo : MO} {m : ME} (ho : OpR X (compareOp op) r) (hs : Op2 X.K sh r f) (ha : EO X ks W a ta mo) (hc : EL X ks W c tc m) (hm : behindInMarks op c = false) : EV X ks W (.Compare a [op] [c] pos) sh (tOp r ta tc) (mOp2L f mo m) :=
  ⟨pe_cmpR ho ha.pe hc.pe hm, snd_op2L (b := bd X ks W) hs ha.sd hc.sd⟩
theorem et_cmpL {op : CmpOp} {r : R2} {f : D → D → Option D} {mo : MO} {m : ME} (ho : OpR X (compareOp op) r) (hs : Op2 X.K .leaf r f) (ha : EO X ks W a ta mo) (hc : EL X ks W c tc m) (hm : behindInMarks op c = false) : ET X ks W (.Compare a [op] [c] pos) (tTest (tOp r ta tc)) (mTest (mOp2L f mo m)) :=
  ⟨pt_cmpR ho ha.pe hc.pe hm, snd_test (snd_op2L (b := bd X ks W) hs ha.sd hc.sd)⟩
/-- one field asked by a built-in -/
def mOpL (f : D → Option D) (m : ME) : ME := fun ρ => (m ρ).bind fun d ρ1 => R.of (f d) ρ1
theorem ev_callBL {x : Str} {q : Pos} {id : String} {r : List V → Hp → VK → Prop} {f : D → Option D} {m : ME} (ho : CallR X (.builtin id) r) (hs : OpN X.K sh r (one f)) (ha : EL X ks W a ta m) (hm : X.mg x = none) (hv : bootBuiltins x = some (.builtin id))
    (hg : Gl X x := by rfl) (hn : x ≠ "__name__" := by decide) (hdb : (x == ("__debug__" : Str)) = false := by decide)
    (he : starEach [a] X.env = (false, eval a X.env) :: starEach [] X.env := by rfl) : EV X ks W (.Call (.Name x q) [a] [] pos) sh (tCB r (tCons ta tNil)) (mOpL f m) := by
  refine ⟨pe_callB ho hg hm hv (pa_cons ha.pe pa_nil he) hn hdb he rfl, fun ρ σ F H fp Q r0 hok => ?_⟩
  refine ha.sd.go r0 (Ok := OkE (bd X ks W) sh F H fp σ Q) hok (fun z => z) (fun _ _ z => z) fun d ρ1 v F1 H1 fp1 h1 r1 x1 o1 => ?_
  cases e : f d with
  | none => rw [e] at h1; exact (show False from h1).elim
  | some z =>
    rw [e] at h1
    exact hs F1 H1 [v] [d] z Q r1.sub (.cons o1 .nil) e ((h1.ext x1).done r1)
/-- self.f[k]: the instance hidden while k is reckoned -/
def mFix (i j : Nat) (mc : ME) : ME := fun ρ => match own ρ i with
  | some o => (match fldD j o with
    | some q => (mc (ρ.set i none)).bind fun k ρ1 => R.of (ixD q.2 k) (ρ1.set i (some o))
    | none => .no)
  | none => .no
theorem ev_fix (i j : Nat) {r : R2} {mc : ME} (ho : IxR X r) (hop : Op2 X.K sh r ixD) (cl : Cls X.K C) (na : NoAttr X.K C f) (hc : EV X ks W c .leaf tc mc) (hsh : s = .leaf ∨ s = .lst .leaf ∨ s = .dic .leaf) (hs : sf[j]? = some (f, s) := by rfl) (nd : (sf.map Prod.fst).Nodup := by decide) (hk : ks[i]? = some (.ins C sf) := by rfl) (hN : X.N[i]? = some y := by rfl)
    (hvi : Vis X.env.scope y := by first | exact Or.inl rfl | exact Or.inr (Or.inl rfl) | exact Or.inr (Or.inr rfl)) (hd : (y == ("__debug__" : Str)) = false := by decide) (hcd : (y == ("__classdict__" : Str)) = false := by decide)
    (hb : attributeBase (.Name y p) f X.env (eval (.Name y p) X.env) = eval (.Name y p) X.env := by rfl) (hx : PlainIx c := by exact fun _ _ => rfl) : EV X ks W (.Subscript (.Attribute (.Name y p) f pos) c pos') sh (tOp r (tFld X.K (tVar i) f) tc) (mFix i j mc) := by
  refine ⟨pe_ix ho (pe_fld (pe_var hN hvi hd hcd) hb) hc.pe hx, fun ρ σ F H fp Q r0 hok => ?_⟩
  unfold mFix at hok
  cases e1 : own ρ i with
  | none => rw [e1] at hok; exact (show False from hok).elim
  | some o =>
    rw [e1] at hok
    dsimp only at hok
    cases e2 : fldD j o with
    | none => rw [e2] at hok; exact (show False from hok).elim
    | some q =>
      rw [e2] at hok
      dsimp only at hok
      obtain ⟨p, dx, fv, v, f0, s1, hp, hl, ov⟩ := fld_of (d := q.2) r0 hk hs nd (by rw [e1, Option.bind_some, e2]; rfl)
      refine ⟨.ref p, s1, p, C, dx, fv, v, rfl, hp, cl, na, hl, ?_⟩
      obtain ⟨w, f1, g, s2, o1, rh, gin, back⟩ := r0.hide hk (getE e1)
      rw [s1] at s2
      cases s2
      refine hc.sd.go rh (Ok := OkE (bd X ks W) sh F H fp σ Q) hok (fun z => z) (fun _ _ z cls dx F' H' fp' r' x' ex => z cls dx F' H' fp' r' (x'.weak gin) ex) fun kd ρ1 u F1 H1 fp1 h1 r1 x1 p1 => ?_
      obtain ⟨o2, fk, fpn, rn, xn⟩ := back r1 x1
      cases e3 : ixD q.2 kd with
      | none => rw [e3] at h1; exact (show False from h1).elim
      | some z =>
        rw [e3] at h1
        have hi : i < ρ1.length := by
          have := (List.getElem?_eq_some_iff.mp hk).1
          rw [r1.sl.lens.1] at this; exact this
        have e4 : own (ρ1.set i (some o)) i = some o := by unfold own; rw [List.getElem?_set_self hi]; rfl
        obtain ⟨p', dx', fv', v', f0', s1', hp', hl', ov'⟩ := fld_of (d := q.2) rn hk hs nd (by rw [e4, Option.bind_some, e2]; rfl)
        rw [s1] at s1'
        cases s1'
        have pin : p ∈ f1 := by cases o1; exact List.mem_cons_self
        rw [(fk p pin).2, hp] at hp'
        cases hp'
        rw [hl] at hl'
        cases hl'
        exact hop F1 H1 v u q.2 kd z Q rn.sub (ov'.vw hsh) (.rep p1) e3 ((OkE.ext xn h1).done rn)
/-! ### self.f[k] = v -/
/-- a dict held by a field -/
theorem Rel.fldK {b : Bd} {ρ : DEnv} {σ : St} {F H : Hp} {fp : List Addr} {i j : Nat} {o : D} {x : Str} {d : D} (r : Rel b.K b.ks F H ρ σ fp) (hk : b.ks[i]? = some (.ins C sf)) (hs : sf[j]? = some (f, .dic .leaf)) (nd : (sf.map Prod.fst).Nodup) (e : own ρ i = some o) (e2 : fldD j o = some (x, d)) :
    ∃ p dx fv q, σ[i]? = some (some (.ref p)) ∧ H p = some (.ins C dx fv) ∧ fv.lookup f = some (.ref q) ∧ x = f ∧ F q = none ∧ q ≠ p ∧
      (∀ ds, d = .dK ds → ∃ kvs, H q = some (.dK kvs) ∧ kvs.map Prod.fst = ds.map Prod.fst ∧ Reps b.K F (kvs.map Prod.snd) (ds.map Prod.snd) ∧ ∀ kvs' ds', kvs'.map Prod.fst = ds'.map Prod.fst → Reps b.K F (kvs'.map Prod.snd) (ds'.map Prod.snd) → ∃ gp, Rel b.K b.ks F (upd H q (.dK kvs')) (ρ.set i (some (withF j f (.dK ds') o))) σ gp ∧ Ext F H fp F (upd H q (.dK kvs')) gp) ∧
      (∀ ds, d = .dT ds → ∃ kvs, H q = some (.dT kvs) ∧ kvs.map Prod.fst = ds.map Prod.fst ∧ Reps b.K F (kvs.map Prod.snd) (ds.map Prod.snd) ∧ ∀ kvs' ds', kvs'.map Prod.fst = ds'.map Prod.fst → Reps b.K F (kvs'.map Prod.snd) (ds'.map Prod.snd) → ∃ gp, Rel b.K b.ks F (upd H q (.dT kvs')) (ρ.set i (some (withF j f (.dT ds') o))) σ gp ∧ Ext F H fp F (upd H q (.dT kvs')) gp) := by
  obtain ⟨c, fd, p, dx, fv, fi, rfl, s1, np, ndx, hp, hdx, of, pfi, dxfi, pdx, ndfi, fin, pin, step⟩ := r.inst hk (getE e)
  obtain ⟨s', v, f0, g, h1, h2, h3, h4, h5⟩ := of.at_ (show fd[j]? = some (x, d) from e2)
  rw [hs] at h1
  cases h1
  have hl := fv_look (of.nd nd) h2
  -- what a change of the dict alone leaves
  have go : ∀ (q : Addr) (u : HO) (d' : D), f0 = [q] → F q = none → (∀ xs, u ≠ .tup xs) → OR b.K F (upd H q u) (.dic .leaf) (.ref q) d' [q] → v = .ref q → ∃ gp, Rel b.K b.ks F (upd H q u) (ρ.set i (some (withF j f d' (.ob c fd)))) σ gp ∧ Ext F H fp F (upd H q u) gp := by
    rintro q u d' rfl nq nt o' rfl
    have qfi : q ∈ fi := h4.symm.subset (List.mem_append_left _ (List.mem_singleton.mpr rfl))
    have qp : p ≠ q := fun z => pfi (z ▸ qfi)
    have qdx : dx ≠ q := fun z => dxfi (z ▸ qfi)
    have ndg := List.nodup_append.mp (h4.nodup_iff.mp ndfi)
    obtain ⟨fp', q1, q2⟩ := h5 (F' := F) (H' := upd H q u) (v' := .ref q) (d' := d') (f' := [q]) (fun _ _ z => z) (fun a m => ⟨(of.own a (h4.symm.subset (List.mem_append_right _ m))).1, upd_ne fun z => ndg.2.2 q (List.mem_singleton.mpr rfl) a m z.symm⟩) o'
    have h2' : fv.set j (f, V.ref q) = fv := by
      obtain ⟨l, e9⟩ := List.getElem?_eq_some_iff.mp h2
      rw [← e9]; exact List.set_getElem_self l
    rw [h2'] at q1
    obtain ⟨gp, r9, x9, y9⟩ := step (F' := F) (H' := upd H q u) (fv' := fv) (fd' := fd.set j (f, d')) (fi' := fp') (sub_updH r.sub nq nt) (fun _ _ z => z) np ndx ((upd_ne qp).trans hp) ((upd_ne qdx).trans hdx) q1 (q2.nodup_iff.mpr (h4.nodup_iff.mp ndfi)) (fun a m => .inl (h4.symm.subset (q2.subset m))) fun a o9 ho n1 n2 => ⟨rfl, (upd_ne fun (z : a = q) => n2 (by rw [z]; exact qfi)).trans ho⟩
    exact ⟨gp, r9, ⟨x9, fun a m => .inl ((y9 a m).elim id fun m => fin a (h4.symm.subset (q2.subset m)))⟩⟩
  cases h3 with
  | @dK _ q kvs ds fp3 nq hq ek rk =>
    obtain ⟨rk2, e0⟩ := rk.leafE
    subst e0
    refine ⟨p, dx, fv, q, s1, hp, hl, rfl, nq, fun z => pfi (z ▸ h4.symm.subset (List.mem_append_left _ (List.mem_singleton.mpr rfl))), fun ds0 z => ?_, fun ds0 z => (by cases z)⟩
    cases z
    exact ⟨kvs, hq, ek, rk2, fun kvs' ds' ek' rk' => go q (.dK kvs') (.dK ds') rfl nq (by intro _ z; cases z) (.dK nq upd_same ek' (ORs.ofReps rk')) rfl⟩
  | @dT _ q kvs ds fp3 nq hq ek rk =>
    obtain ⟨rk2, e0⟩ := rk.leafE
    subst e0
    refine ⟨p, dx, fv, q, s1, hp, hl, rfl, nq, fun z => pfi (z ▸ h4.symm.subset (List.mem_append_left _ (List.mem_singleton.mpr rfl))), fun ds0 z => (by cases z), fun ds0 z => ?_⟩
    cases z
    exact ⟨kvs, hq, ek, rk2, fun kvs' ds' ek' rk' => go q (.dT kvs') (.dT ds') rfl nq (by intro _ z; cases z) (.dT nq upd_same ek' (ORs.ofReps rk')) rfl⟩

def mFput (i j : Nat) (mc mv : ME) : MS := fun ρ => (mv ρ).bind fun v ρ1 => match own ρ1 i with
  | some o => (match fldD j o with
    | some q => (mc (ρ1.set i none)).bind fun k ρ2 => R.of (putD q.2 k v) ρ2 |>.bind fun d' ρ3 => .ok .nx (ρ3.set i (some (withF j q.1 d' o)))
    | none => .no)
  | none => .no
variable {rsh : Sh} {fx : Nat} {value : Expr} {tv : TE}
theorem OkX.wk {b : Bd} {F H : Hp} {g fp : List Addr} {σ : St} {e : Ex} {ρ' : DEnv} (h : OkX b F H fp σ e ρ') (s : ∀ a ∈ g, a ∈ fp) : OkX b F H g σ e ρ' := fun cls dx F' H' fp' r x ex => h cls dx F' H' fp' r (x.weak s) ex
theorem sv_fput (i j : Nat) {mc mv : ME} (hu : X.A.units + 1 < cLine) (cl : Cls X.K C) (na : NoAttr X.K C f) (hc : EV X ks W c .leaf tc mc) (hv : EV X ks W value .leaf tv mv) (hs : sf[j]? = some (f, .dic .leaf) := by rfl) (nd : (sf.map Prod.fst).Nodup := by decide) (hk : ks[i]? = some (.ins C sf) := by rfl) (hN : X.N[i]? = some y := by rfl)
    (hvi : Vis X.env.scope y := by first | exact Or.inl rfl | exact Or.inr (Or.inl rfl) | exact Or.inr (Or.inr rfl)) (hd : (y == ("__debug__" : Str)) = false := by decide) (hcd : (y == ("__classdict__" : Str)) = false := by decide)
    (hb : attributeBase (.Name y p) f X.env (eval (.Name y p) X.env) = eval (.Name y p) X.env := by rfl)
    (hsw : swapsWith value (some (.Subscript (.Attribute (.Name y p) f pos') c pos)) p3.line X.env = pure false := by rfl) : SV X ks W rsh fx (.Assign [.Subscript (.Attribute (.Name y p) f pos') c pos] value p3) (sDPut (tFld X.K (tVar i) f) tc tv) (mFput i j mc mv) := by
  refine ⟨ps_dput hu (pe_fld (pe_var hN hvi hd hcd) hb) hc.pe hv.pe hsw, fun ρ σ F H fp D r hok => ?_⟩
  unfold mFput at hok
  refine hv.sd.go r (Ok := OkS (bd X ks W) rsh fx F H fp σ D) hok (fun z => z) (fun _ _ z => z.x) fun w ρ1 v F1 H1 fp1 h1 r1 x1 p1 => ?_
  cases e1 : own ρ1 i with
  | none => rw [e1] at h1; exact (show False from h1).elim
  | some o =>
  rw [e1] at h1
  dsimp only at h1
  cases e2 : fldD j o with
  | none => rw [e2] at h1; exact (show False from h1).elim
  | some q =>
  rw [e2] at h1
  dsimp only at h1
  obtain ⟨p0, dx, fv, v0, f0, s1, hp, hl, ov⟩ := fld_of (d := q.2) r1 hk hs nd (by rw [e1, Option.bind_some, e2]; rfl)
  refine ⟨.ref p0, s1, p0, C, dx, fv, v0, rfl, hp, cl, na, hl, ?_⟩
  obtain ⟨w0, f1, g, s2, o1, rh, gin, back⟩ := r1.hide hk (getE e1)
  rw [s1] at s2
  cases s2
  have h1' := h1.ext x1 rfl
  refine hc.sd.go rh (Ok := OkS (bd X ks W) rsh fx F1 H1 fp1 σ D) h1' (fun z => z) (fun _ _ z => OkX.wk z.x gin) fun kd ρ2 u F2 H2 fp2 h2 r2 x2 p2 => ?_
  obtain ⟨o2, fk, fpn, rn, xn⟩ := back r2 x2
  have p1' := p1.mono (rh.same x2)
  cases e3 : putD q.2 kd w with
  | none => rw [e3] at h2; exact (show False from h2).elim
  | some d3 =>
  rw [e3] at h2
  have hi : i < ρ2.length := by
    have := (List.getElem?_eq_some_iff.mp hk).1
    rw [r2.sl.lens.1] at this; exact this
  have e4 : own (ρ2.set i (some o)) i = some o := by unfold own; rw [List.getElem?_set_self hi]; rfl
  obtain ⟨x', d'⟩ := q
  obtain ⟨p', dx', fv', q', s1', hp', hl', ex, nq, nqp, stK, stT⟩ := rn.fldK hk hs nd e4 e2
  subst ex
  rw [s1] at s1'
  cases s1'
  have pin : p0 ∈ f1 := by cases o1; exact List.mem_cons_self
  rw [(fk p0 pin).2, hp] at hp'
  cases hp'
  rw [hl] at hl'
  cases hl'
  simp only [List.set_set] at stK stT
  unfold putD at e3
  split at e3
  · rename_i kvs heq
    split at e3
    · rename_i cl0
      cases e5 : keyK kd with
      | none => rw [e5] at e3; cases e3
      | some qk =>
        rw [e5] at e3
        cases e3
        obtain ⟨kv, eH, ek, rk, step⟩ := stK kvs heq
        obtain ⟨gp, r3, x3⟩ := step _ _ (put_keys qk v w ek) (put_reps qk p1' ek rk)
        refine ⟨q', _, rfl, ?_, (h2.ext xn rfl) σ F2 _ gp r3 x3 rfl⟩
        rw [keyKE (F := F2) (H := F2) (.rep p2) e5]
        exact DPut.k eH (by rw [put_len qk v w ek, sizeLine_eq]; exact cl0)
    · cases e3
  · rename_i kvs heq
    split at e3
    · rename_i cl0
      cases e5 : keyT kd with
      | none => rw [e5] at e3; cases e3
      | some qk =>
        rw [e5] at e3
        cases e3
        obtain ⟨kv, eH, ek, rk, step⟩ := stT kvs heq
        obtain ⟨gp, r3, x3⟩ := step _ _ (put_keys qk v w ek) (put_reps qk p1' ek rk)
        obtain ⟨bb, b1, b2⟩ := keyTE r2.sub (.rep p2) e5
        refine ⟨q', _, rfl, ?_, (h2.ext xn rfl) σ F2 _ gp r3 x3 rfl⟩
        rw [b1]
        exact DPut.t eH b2 (by rw [put_len qk v w ek, sizeLine_eq]; exact cl0)
    · cases e3
  · cases e3
/-! ### self.f = v -/
def mFset (i j : Nat) (x : Str) (m : ME) : MS := fun ρ => (m ρ).bind fun d ρ1 => (R.of ((own ρ1 i).bind (putFd j x d)) ρ1).bind fun o ρ2 => .ok .nx (ρ2.set i (some o))
theorem sv_fset (i j : Nat) {m : ME} (cl : Cls X.K C) (na : NoAttr X.K C f) (hv : EV X ks W value s tv m) (hs : sf[j]? = some (f, s) := by rfl) (nd : (sf.map Prod.fst).Nodup := by decide) (hl : sf.length < 1000 := by decide) (hk : ks[i]? = some (.ins C sf) := by rfl) (hN : X.N[i]? = some y := by rfl)
    (hvi : Vis X.env.scope y := by first | exact Or.inl rfl | exact Or.inr (Or.inl rfl) | exact Or.inr (Or.inr rfl)) (hd : (y == ("__debug__" : Str)) = false := by decide) (hcd : (y == ("__classdict__" : Str)) = false := by decide)
    (hsw : swapsWith value (some (.Attribute (.Name y p) f pos')) p3.line X.env = pure false := by rfl) : SV X ks W rsh fx (.Assign [.Attribute (.Name y p) f pos'] value p3) (sFld X.K (tVar i) tv f) (mFset i j f m) := by
  refine ⟨ps_fld (pe_var hN hvi hd hcd) hv.pe hsw, fun ρ σ F H fp D r hok => ?_⟩
  unfold mFset at hok
  refine hv.sd ρ σ F H fp _ r ?_
  cases em : m ρ with
  | no => rw [em] at hok; exact (show False from hok).elim
  | ex x ρ1 => rw [em] at hok; exact hok.x
  | ok d ρ1 =>
  rw [em] at hok
  intro v F1 H1 fp1 fw r1 nd1 x1 o1
  have hok : OkS (bd X ks W) rsh fx F H fp σ D ((R.of ((own ρ1 i).bind (putFd j f d)) ρ1).bind fun o ρ2 => .ok .nx (ρ2.set i (some o))) := hok
  cases e1 : own ρ1 i with
  | none => rw [e1] at hok; exact (show False from hok).elim
  | some o =>
  cases e2 : putFd j f d o with
  | none => rw [e1, Option.bind_some, e2] at hok; exact (show False from hok).elim
  | some o' =>
  rw [e1, Option.bind_some, e2] at hok
  obtain ⟨c, fd, p0, dx, fv, fi, rfl, s1, np, ndx, hp, hdx, of, pfi, dxfi, pdx, ndfi, fin, pin, step⟩ := r1.inst hk (getE e1)
  obtain ⟨l1, l2⟩ := of.len
  refine ⟨.ref p0, s1, p0, C, dx, fv, rfl, hp, cl, na, by omega, ?_⟩
  have nda := List.nodup_append.mp nd1
  have fwn : ∀ a ∈ fw, F1 a = none ∧ a ∉ fp1 := fun a m => ⟨(o1.own a m).1, fun q => nda.2.2 a q a m rfl⟩
  have pfw : p0 ∉ fw := fun m => (fwn p0 m).2 pin
  have keep : ∀ a, a ≠ p0 → upd H1 p0 (.ins C dx (putF f v fv)) a = H1 a := fun a n => upd_ne n
  have sb : Sub F1 (upd H1 p0 (.ins C dx (putF f v fv))) := sub_updH r1.sub np (by intro _ z; cases z)
  have ow : OR X.K F1 (upd H1 p0 (.ins C dx (putF f v fv))) s v d fw := o1.frame (fun _ _ z => z) fun a m => ⟨(fwn a m).1, keep a fun z => pfw (z ▸ m)⟩
  have finish : ∀ {fd' : List (Str × VL.D)} {fi' : List Addr}, OF X.K F1 (upd H1 p0 (.ins C dx (putF f v fv))) sf (putF f v fv) fd' fi' → fi'.Nodup → (∀ a ∈ fi', a ∈ fi ∨ a ∈ fw) → OkS (bd X ks W) rsh fx F H fp σ D (.ok .nx (ρ1.set i (some (.ob c fd')))) → D.nx σ (upd H1 p0 (.ins C dx (putF f v fv))) := by
    intro fd' fi' of' nd' sub' ok'
    obtain ⟨gp, r9, k9, y9⟩ := step (F' := F1) (H' := upd H1 p0 (.ins C dx (putF f v fv))) sb (fun _ _ z => z) np ndx upd_same ((keep dx fun z => pdx z.symm).trans hdx) of' nd' (fun a m => (sub' a m).imp id fun m => (fwn a m).2) fun a o ho n1 _ => ⟨rfl, (keep a n1).trans ho⟩
    refine ok' σ F1 _ gp r9 (x1.trans ⟨fun a o ho n => k9 a o ho fun q => n (List.mem_append_left _ q), fun a m => .inl ?_⟩) rfl
    rcases y9 a m with q | q
    · exact List.mem_append_left _ q
    · rcases sub' a q with q | q
      · exact List.mem_append_left _ (fin a q)
      · exact List.mem_append_right _ q
  have ofH : OF X.K F1 (upd H1 p0 (.ins C dx (putF f v fv))) sf fv fd fi := of.frame (fun _ _ z => z) fun a m => ⟨(of.own a m).1, keep a fun z => pfi (z ▸ m)⟩
  unfold putFd at e2
  dsimp only at e2
  split at e2
  · rename_i lt
    cases e2
    obtain ⟨⟨x', d0⟩, e3⟩ : ∃ q, fd[j]? = some q := ⟨_, List.getElem?_eq_getElem lt⟩
    obtain ⟨s', v0, f0, g, h1, h2, h3, h4, h5⟩ := ofH.at_ e3
    rw [hs] at h1
    cases h1
    have ndg := List.nodup_append.mp (h4.nodup_iff.mp ndfi)
    obtain ⟨fp', q1, q2⟩ := h5 (F' := F1) (H' := upd H1 p0 (.ins C dx (putF f v fv))) (v' := v) (d' := d) (f' := fw) (fun _ _ z => z) (fun a m => ⟨(of.own a (h4.symm.subset (List.mem_append_right _ m))).1, rfl⟩) ow
    rw [← putF_at (of.nd nd) h2] at q1
    have gfi : ∀ a ∈ g, a ∈ fi := fun a m => h4.symm.subset (List.mem_append_right _ m)
    exact finish q1 (q2.nodup_iff.mpr (List.nodup_append.mpr ⟨nda.2.1, ndg.2.1, fun a m b q z => (fwn a m).2 (fin a (z ▸ gfi b q))⟩)) (fun a m => (List.mem_append.mp (q2.subset m)).elim .inr fun m => .inl (gfi a m)) hok
  · rename_i nlt
    split at e2
    · rename_i eq
      cases e2
      obtain ⟨fp', q1, q2⟩ := ofH.snoc ow (x := f) (by rw [← eq]; exact hs)
      have nf : f ∉ fv.map Prod.fst := by
        obtain ⟨n1, rr, n2⟩ := of.names
        rw [n1]
        intro m
        have hf : (sf.map Prod.fst)[j]? = some f := by rw [List.getElem?_map, hs]; rfl
        obtain ⟨k, hk', ek⟩ := List.getElem_of_mem m
        have h9 : (sf.map Prod.fst)[k]? = some f := by
          rw [n2, List.getElem?_append_left hk', List.getElem?_eq_getElem hk', ek]
        obtain ⟨a1, a2⟩ := List.getElem?_eq_some_iff.mp hf
        obtain ⟨b1, b2⟩ := List.getElem?_eq_some_iff.mp h9
        have : j = k := (List.getElem_inj nd).mp (a2.trans b2.symm)
        rw [List.length_map] at hk'
        omega
      rw [← putF_no nf] at q1
      exact finish q1 (q2.nodup_iff.mpr (List.nodup_append.mpr ⟨nda.2.1, ndfi, fun a m b q z => (fwn a m).2 (fin a (z ▸ q))⟩)) (fun a m => (List.mem_append.mp (q2.subset m)).elim .inr .inl) hok
    · cases e2
end
end VL
set_option maxHeartbeats 1000000
/-! V49: methods of an owned instance, instances made. -/
namespace VL
open PySem PySem.Spec L2
/-- a method's promise, by class and name -/
structure Mlp (P : Program) (w : World) (K : PySem.W.Frag) (mg : Str → Option Value) (base : Heap) (CX : CXT) (k : Nat) (C : Addr) (m : Str) (n : Nat) (psh : List Sh) (fx : Nat) (rsh : Sh) (g : List D → R D) : Prop where
  ex : ∃ f fd ps, FnG P w K mg base CX k f fd ps (spV K mg n psh fx rsh g) ∧ Meth K C m f ∧ Binds K fd ps []
structure Ml (X : Cx) (CX : CXT) (k : Nat) (C : Addr) (m : Str) (n : Nat) (psh : List Sh) (fx : Nat) (rsh : Sh) (g : List D → R D) : Prop where
  ex : ∃ f fd ps, FnG X.prog X.w X.K X.mg X.base CX k f fd ps (spV X.K X.mg n psh fx rsh g) ∧ Meth X.K C m f ∧ Binds X.K fd ps []
theorem Mlp.ml {P : Program} {w : World} {K : PySem.W.Frag} {mg : Str → Option Value} {base : Heap} {CX : CXT} {j k : Nat} {C : Addr} {m : Str} {n : Nat} {psh : List Sh} {fx : Nat} {rsh : Sh} {g : List D → R D} (c : Mlp P w K mg base CX j C m n psh fx rsh g) (h : j ≤ k)
    {X : Cx} (h1 : X.prog = P) (h2 : X.w = w) (h3 : X.K = K) (h4 : X.mg = mg) (h5 : X.base = base) : Ml X CX k C m n psh fx rsh g := by
  subst h1 h2 h3 h4 h5
  obtain ⟨f, fd, ps, G, hm, hb⟩ := c.ex
  exact ⟨f, fd, ps, G.mono h, hm, hb⟩
theorem mlp_of {P : Program} {w : World} {K : PySem.W.Frag} {mg : Str → Option Value} {base : Heap} {CX : CXT} {k n : Nat} {f C : Addr} {fd : FuncData} {ps : List Str} {psh : List Sh} {fx : Nat} {rsh : Sh} {g : List D → R D} {m : Str}
    (G : FnG P w K mg base CX k f fd ps (spV K mg n psh fx rsh g)) (hm : Meth K C m f) (hb : Binds K fd ps []) : Mlp P w K mg base CX k C m n psh fx rsh g := ⟨f, fd, ps, G, hm, hb⟩
def tMethG (C : Addr) (m : Str) (sp : Sp) (E : St → XK) (ta : TE) (t : TA) : TE := fun σ H Q => ta σ H fun x H1 => ∃ a dx fs, x = .ref a ∧ H1 a = some (.ins C dx fs) ∧ fs.lookup m = none ∧ t σ H1 fun vs H2 => sp (x :: vs) H2 Q (E σ)
def tMakeG (C : Addr) (sp : Sp) (E : St → XK) (t : TA) : TE := fun σ H Q => t σ H fun vs H1 => ∀ x dx, H1 x = none → H1 dx = none → dx ≠ x →
  sp (.ref x :: vs) (upd (upd H1 dx (.own x)) x (.ins C dx [])) (fun v H2 => v = .non ∧ Q (.ref x) H2) (E σ)
theorem guards_make (A : Around) (C : Addr) (us : List Value) : (A.under (.builtin "type.__call__" ⟨.ref C :: us, []⟩)).guards = A.guards := by
  rfl
section
variable {X : Cx} {CX : CXT} {k : Nat} {f C : Addr} {fd : FuncData} {ps : List Str} {sp : Sp} {x m : Str} {p pos apos : Pos} {o e : Expr} {es : List Expr} {ta : TE} {t : TA} {E : St → XK}
theorem pe_methG {pl : Sem Bool} (he : PE X o ta) (c : Cls X.K C) (hm : Meth X.K C m f) (G : FnG X.prog X.w X.K X.mg X.base CX k f fd ps sp) (hr : Room k X.A) (hgd : X.A.guards = some []) (hb : Binds X.K fd ps []) (hx : ∀ σ, PassesAt CX X σ (E σ)) (ha : PA X (e :: es) t)
    (hst : starEach (e :: es) X.env = (false, eval e X.env) :: starEach es X.env) (hpl : (backTo pos (starEach es X.env)).any (·.1) = false)
    (ht : eval (.Call (.Attribute o m apos) (e :: es) [] pos) X.env = (do
      let ov ← eval o X.env
      standAt apos.atName
      let (f, first) ← holding [ov] (getMethod ov m pl)
      callWith pos f first (backTo pos (starEach (e :: es) X.env)) (backToKw pos (keywordEach [] X.env)))) :
    PE X (.Call (.Attribute o m apos) (e :: es) [] pos) (tMethG C m sp E ta t) := by
  refine ⟨fun pins s σ H Q I h => ?_⟩
  refine PySem.W.methodCall_KW (pl := pl) (thn (he.run pins s σ H _ I h) fun u s1 ⟨x, H1, I1, rx, a, dx, fs, ex, ea, l, q⟩ => ?_) ht
  subst ex
  obtain rfl : u = Value.ref a := rx
  refine getmeth_ok I1 ea c hm l ?_
  refine PySem.W.callWith_K (first := [.ref a]) (h₀ := X.base) I.ok.mod.kin hm.kp (thn (ha.run pos pins s1 σ H1 _ I1 q) fun us s2 ⟨vs, H2, I2, r, q2⟩ => ⟨I2.kIn, ?_⟩) hst hpl
  exact run_fng (us := .ref a :: us) (vs := .ref a :: vs) G hr hgd hb (hx σ) I2 (.cons rfl r) q2
theorem pe_methG0 {pl : Sem Bool} (he : PE X o ta) (c : Cls X.K C) (hm : Meth X.K C m f) (G : FnG X.prog X.w X.K X.mg X.base CX k f fd ps sp) (hr : Room k X.A) (hgd : X.A.guards = some []) (hb : Binds X.K fd ps []) (hx : ∀ σ, PassesAt CX X σ (E σ))
    (ht : eval (.Call (.Attribute o m apos) [] [] pos) X.env = (do
      let ov ← eval o X.env
      standAt apos.atName
      let (f, first) ← holding [ov] (getMethod ov m pl)
      callWith pos f first (backTo pos (starEach [] X.env)) (backToKw pos (keywordEach [] X.env)))) :
    PE X (.Call (.Attribute o m apos) [] [] pos) (tMethG C m sp E ta tNil) := by
  refine ⟨fun pins s σ H Q I h => ?_⟩
  refine PySem.W.methodCall_KW (pl := pl) (thn (he.run pins s σ H _ I h) fun u s1 ⟨x, H1, I1, rx, a, dx, fs, ex, ea, l, q⟩ => ?_) ht
  subst ex
  obtain rfl : u = Value.ref a := rx
  refine getmeth_ok I1 ea c hm l ?_
  exact PySem.W.callWith_K0 (first := [.ref a]) I1.kIn hm.kp (run_fng (us := [.ref a]) (vs := [.ref a]) G hr hgd hb (hx σ) I1 (.cons rfl .nil) q)
theorem run_makeG {E : XK} {pins : List (Addr × Obj)} {σ : St} {H : Hp} {s : Shared} {Q : VK} {us : List Value} {vs : List V} (M : Mk X.K C f) (G : FnG X.prog X.w X.K X.mg X.base CX k f fd ps sp) (hr : Room (k + 1) X.A) (hgd : X.A.guards = some []) (hb : Binds X.K fd ps [])
    (hx : PassesAt CX X σ E) (I : Inv X pins σ H s) (r : Vals vs us)
    (h : ∀ x dx, H x = none → H dx = none → dx ≠ x → sp (.ref x :: vs) (upd (upd H dx (.own x)) x (.ins C dx [])) (fun v H2 => v = .non ∧ Q (.ref x) H2) E) :
    wpAny (model X.prog X.w) X.A (call (.ref C) us) (EP X pins σ Q) X.xe s := by
  have hq := h (s.heap.objs.size + 1) s.heap.objs.size (I.hok.fresh (Nat.le_succ _)) (I.hok.fresh (Nat.le_refl _)) (Nat.ne_of_lt (Nat.lt_succ_self _))
  have I2 := Inv.made (C := C) I
  have r2 : Vals (V.ref (s.heap.objs.size + 1) :: vs) (Value.ref (s.heap.objs.size + 1) :: us) := .cons rfl r
  have hl : (Value.ref (s.heap.objs.size + 1) :: us ++ ([] : List Value)).length = ps.length := by
    rw [List.append_nil, ← r2.length]; exact G.len _ _ _ _ hq
  have hb' := hb { s with heap := (s.heap.push PySem.W.emptyDict).push (PySem.W.instObj C s.heap.objs.size) } (Value.ref (s.heap.objs.size + 1) :: us) I2.kIn hl
  rw [List.append_nil] at hb'
  refine wpAny_call (make_map (f := f) I.kIn M.makes M.init (beq_iff_eq.mp M.fn) (codeAny_mono (G.run _ X.stack _ _ ⟨Value.ref (s.heap.objs.size + 1) :: us, []⟩ (Value.ref (s.heap.objs.size + 1) :: us) _ _ E (hr.make C us [])
    ((guards_make X.A C us).trans hgd) (I2.env0.make C us []) hb' r2 hq) fun r s' hq' => ?_))
  match r, hq' with
  | .error e, hq' => exact hx pins _ _ e s' I2 hq'
  | .ok (.ret u), hq' =>
    obtain ⟨v, H', I3, rv, ev, q3⟩ := I2.after hq'
    subst ev
    exact ⟨rv, ⟨V.ref (s.heap.objs.size + 1), H', I3, rfl, q3⟩⟩
  | .ok .next, hq' => exact False.elim hq'
  | .ok .brk, hq' => exact False.elim hq'
  | .ok .cont, hq' => exact False.elim hq'
theorem pe_makeG (M : Mk X.K C f) (G : FnG X.prog X.w X.K X.mg X.base CX k f fd ps sp) (hr : Room (k + 1) X.A) (hgd : X.A.guards = some []) (hg : Gl X x) (hm : X.mg x = some (.ref C)) (hb : Binds X.K fd ps []) (hx : ∀ σ, PassesAt CX X σ (E σ))
    (ha : PA X (e :: es) t) (hdb : (x == ("__debug__" : Str)) = false) (he : starEach (e :: es) X.env = (false, eval e X.env) :: starEach es X.env) (hpl : (backTo pos (starEach es X.env)).any (·.1) = false) :
    PE X (.Call (.Name x p) (e :: es) [] pos) (tMakeG C sp E t) := by
  refine ⟨fun pins s σ H Q I h => ?_⟩
  refine wpAny_Call_Name_kw (ld_glob I hg hm ?_ hdb)
  refine PySem.W.callWith_K (h₀ := X.base) I.ok.mod.kin M.kp (thn (ha.run pos pins s σ H _ I h) fun us s1 ⟨vs, H1, I1, r, q⟩ => ⟨I1.kIn, ?_⟩) he hpl
  exact run_makeG M G hr hgd hb (hx σ) I1 r q
end
end VL
set_option maxHeartbeats 1000000
/-! V50: methods called, instances made: by data. -/
namespace VL
open PySem PySem.Spec L2
section
variable {X : Cx} {CX : CXT} {k n : Nat} {y m : Str} {g : List D → R D} {ks : List Sh} {W : WX} {e : Expr} {es : List Expr} {p p' pos apos : Pos} {t : TA} {ma : MA} {rsh : Sh} {C : Addr} {sf : List (Str × Sh)}
theorem snd_meth {b : Bd} {i : Nat} (hW : b.W = W) (hk : b.ks[i]? = some (.ins C sf)) (nm : m ∉ sf.map Prod.fst) (ha : SndA b t ma) :
    SndE b rsh (tMethG C m (spV b.K b.mg (n + 1) (.ins C sf :: leaves n) 1 rsh g) (WE W) (tVar i) t) (mCall1 i n g ma) := by
  intro ρ σ F H fp Q r hok
  have h0 := snd_call1 (g := g) (n := n) (rsh := rsh) hW hk ha ρ σ F H fp Q r hok
  unfold mCall1 at hok
  cases e0 : own ρ i with
  | none => rw [e0] at hok; exact (show False from hok).elim
  | some dd =>
    obtain ⟨c, fd, q, dx, fv, fi, rfl, s1, np, ndx, hp, hdx, of, _⟩ := r.inst hk (getE e0)
    obtain ⟨v, s2, h2⟩ := h0
    rw [s1] at s2
    cases s2
    obtain ⟨n1, rr, n2⟩ := of.names
    refine ⟨.ref q, s1, q, dx, fv, rfl, hp, fv_no fun z => nm ?_, h2⟩
    rw [n1] at z
    rw [n2]
    exact List.mem_append_left _ z
theorem ev_meth (i : Nat) (cl : Cls X.K C) (c : Ml X CX k C m (n + 1) (.ins C sf :: leaves n) 1 rsh g) (hx : ∀ σ, PassesAt CX X σ (WE W σ)) (hr : Room k X.A) (hgd : X.A.guards = some []) (ha : EA X ks W (e :: es) t ma) (nm : m ∉ sf.map Prod.fst := by decide) (hk : ks[i]? = some (.ins C sf) := by rfl) (hN : X.N[i]? = some y := by rfl)
    (hv : Vis X.env.scope y := by first | exact Or.inl rfl | exact Or.inr (Or.inl rfl) | exact Or.inr (Or.inr rfl)) (hd : (y == ("__debug__" : Str)) = false := by decide) (hcd : (y == ("__classdict__" : Str)) = false := by decide) {pl : Sem Bool}
    (hst : starEach (e :: es) X.env = (false, eval e X.env) :: starEach es X.env := by rfl) (hpl : (backTo pos (starEach es X.env)).any (·.1) = false := by rfl)
    (ht : eval (.Call (.Attribute (.Name y p') m apos) (e :: es) [] pos) X.env = (do
      let ov ← eval (.Name y p') X.env
      standAt apos.atName
      let (f, first) ← holding [ov] (getMethod ov m pl)
      callWith pos f first (backTo pos (starEach (e :: es) X.env)) (backToKw pos (keywordEach [] X.env))) := by rfl) :
    EV X ks W (.Call (.Attribute (.Name y p') m apos) (e :: es) [] pos) rsh (tMethG C m (spV X.K X.mg (n + 1) (.ins C sf :: leaves n) 1 rsh g) (WE W) (tVar i) t) (mCall1 i n g ma) := by
  obtain ⟨f, fd, ps, G, hm, hb⟩ := c.ex
  exact ⟨pe_methG (pe_var hN hv hd hcd) cl hm G hr hgd hb hx ha.pe hst hpl ht, snd_meth (b := bd X ks W) rfl hk nm ha.sd⟩
theorem ev_meth0 (i : Nat) (cl : Cls X.K C) (c : Ml X CX k C m 1 [.ins C sf] 1 rsh g) (hx : ∀ σ, PassesAt CX X σ (WE W σ)) (hr : Room k X.A) (hgd : X.A.guards = some []) (nm : m ∉ sf.map Prod.fst := by decide) (hk : ks[i]? = some (.ins C sf) := by rfl) (hN : X.N[i]? = some y := by rfl)
    (hv : Vis X.env.scope y := by first | exact Or.inl rfl | exact Or.inr (Or.inl rfl) | exact Or.inr (Or.inr rfl)) (hd : (y == ("__debug__" : Str)) = false := by decide) (hcd : (y == ("__classdict__" : Str)) = false := by decide) {pl : Sem Bool}
    (ht : eval (.Call (.Attribute (.Name y p') m apos) [] [] pos) X.env = (do
      let ov ← eval (.Name y p') X.env
      standAt apos.atName
      let (f, first) ← holding [ov] (getMethod ov m pl)
      callWith pos f first (backTo pos (starEach [] X.env)) (backToKw pos (keywordEach [] X.env))) := by rfl) :
    EV X ks W (.Call (.Attribute (.Name y p') m apos) [] [] pos) rsh (tMethG C m (spV X.K X.mg 1 [.ins C sf] 1 rsh g) (WE W) (tVar i) tNil) (mCall1 i 0 g mNil) := by
  obtain ⟨f, fd, ps, G, hm, hb⟩ := c.ex
  exact ⟨pe_methG0 (pe_var hN hv hd hcd) cl hm G hr hgd hb hx ht, snd_meth (b := bd X ks W) (n := 0) rfl hk nm ea_nil.sd⟩
/-- a new instance -/
def mNew (c : Str) (n : Nat) (g : List D → R D) (ma : MA) : ME := fun ρ => (ma ρ).bind fun ds ρ1 => if ds.length = n then (match g (.ob c [] :: ds) with
  | .ok .non [some d1] => .ok d1 ρ1
  | _ => .no) else .no
theorem snd_new {b : Bd} {c : Str} (hW : b.W = W) (ha : SndA b t ma) : SndE b (.ins C sf) (tMakeG C (spV b.K b.mg (n + 1) (.ins C sf :: leaves n) 1 .leaf g) (WE W) t) (mNew c n g ma) := by
  intro ρ σ F H fp Q r hok
  unfold mNew at hok
  refine ha.go r (Ok := OkE b (.ins C sf) F H fp σ Q) hok (fun z => z) (fun _ _ z => z) fun ds ρ1 vs F1 H1 fp1 h1 r1 x1 p1 => ?_
  by_cases hn : ds.length = n
  · rw [if_pos hn] at h1
    have h2 := OkE.ext x1 h1
    intro x dx nx ndx ne
    have F1x := sub_none r1.sub nx
    have F1dx := sub_none r1.sub ndx
    obtain ⟨H2, eH⟩ : ∃ H2, H2 = upd (upd H1 dx (.own x)) x (.ins C dx []) := ⟨_, rfl⟩
    rw [← eH]
    have ex : H2 x = some (.ins C dx []) := by rw [eH]; exact upd_same
    have edx : H2 dx = some (.own x) := by rw [eH, upd_ne ne]; exact upd_same
    have eo : ∀ a, a ≠ x → a ≠ dx → H2 a = H1 a := fun a n1 n2 => by rw [eH, upd_ne n1, upd_ne n2]
    have sb : Sub F1 H2 := by
      rw [eH]
      exact sub_updH (sub_updH r1.sub F1dx (by intro _ z; cases z)) F1x (by intro _ z; cases z)
    have rl : RelL b.K F1 H2 (.ins C sf :: leaves n) (some (.ob c []) :: ds.map some) (some (.ref x) :: vs.map some) ([x, dx] ++ []) := .som (.ins F1x F1dx ex edx .nil) (by rw [← hn]; exact relL_leaves p1)
    rw [List.append_nil] at rl
    refine ⟨by rw [List.length_cons, p1.length, hn], F1, [x, dx], .ob c [] :: ds, ⟨sb, List.nodup_cons.mpr ⟨fun z => ne (List.mem_singleton.mp z).symm, by simp⟩, rl⟩, ?_⟩
    cases eg : g (.ob c [] :: ds) with
    | no => rw [eg] at h2; exact (show False from h2).elim
    | ex y ρ' => rw [eg] at h2; exact (show False from h2).elim
    | ok d ρ' =>
      rw [eg] at h2
      intro v F' H' fp' fv r' nd xx o
      obtain ⟨rv, ef⟩ := o.leafE
      subst ef
      split at h2
      · rename_i d1 _ heq
        cases heq
        rename_i e2
        have r0 := r'.sl
        rw [List.take_succ_cons, List.take_zero, List.take_succ_cons, List.take_zero] at r0
        cases r0 with
        | @som _ _ _ _ _ _ fz fz' oz rz =>
          cases rz
          rw [List.append_nil] at xx nd
          have kp : ∀ a o, H1 a = some o → H' a = some o ∧ F' a = F1 a := fun a o ho => by
            have n1 : a ≠ x := fun z => by rw [z, nx] at ho; cases ho
            have n2 : a ≠ dx := fun z => by rw [z, ndx] at ho; cases ho
            exact xx.keep a o ((eo a n1 n2).trans ho) fun m => by
              rcases List.mem_cons.mp m with z | m
              · exact n1 z
              · exact n2 (List.mem_singleton.mp m)
          have fzn : ∀ a ∈ fz, H1 a = none := fun a m => by
            rcases xx.fr a (List.mem_append_left _ m) with z | z
            · rcases List.mem_cons.mp z with rfl | z
              · exact nx
              · rw [List.mem_singleton.mp z]; exact ndx
            · by_cases n1 : a = x
              · rw [n1]; exact nx
              · by_cases n2 : a = dx
                · rw [n2]; exact ndx
                · rw [← eo a n1 n2]; exact z
          have al : Alc F1 H1 F' H' := ⟨r'.sub, kp⟩
          rw [List.append_nil] at nd
          obtain ⟨r2, nd2, x2⟩ := al.rel (fv := fz) r1 fzn nd
          refine ⟨by cases rv; rfl, h2 (.ref x) F' H' fp1 fz r2 nd2 x2 oz⟩
      · exact (show False from h2).elim
  · rw [if_neg hn] at h1; exact (show False from h1).elim
theorem ev_new {c : Str} {f : Addr} (M : Mk X.K C f) (G : ∃ fd ps, FnG X.prog X.w X.K X.mg X.base CX k f fd ps (spV X.K X.mg (n + 1) (.ins C sf :: leaves n) 1 .leaf g) ∧ Binds X.K fd ps []) (hx : ∀ σ, PassesAt CX X σ (WE W σ)) (hr : Room (k + 1) X.A) (hgd : X.A.guards = some []) (hm : X.mg y = some (.ref C)) (ha : EA X ks W (e :: es) t ma) (hg : Gl X y := by rfl) (hdb : (y == ("__debug__" : Str)) = false := by decide)
    (he : starEach (e :: es) X.env = (false, eval e X.env) :: starEach es X.env := by rfl) (hpl : (backTo pos (starEach es X.env)).any (·.1) = false := by rfl) : EV X ks W (.Call (.Name y p) (e :: es) [] pos) (.ins C sf) (tMakeG C (spV X.K X.mg (n + 1) (.ins C sf :: leaves n) 1 .leaf g) (WE W) t) (mNew c n g ma) := by
  obtain ⟨fd, ps, G, hb⟩ := G
  exact ⟨pe_makeG M G hr hgd hg hm hb hx ha.pe hdb he hpl, snd_new (b := bd X ks W) rfl ha.sd⟩
end
end VL
/-! V51: the rules of instances with the module's part named; a key and a tuple put together. -/
namespace VL
open PySem PySem.Spec L2
/-- the def that makes an instance ready -/
structure Nlp (P : Program) (w : World) (K : PySem.W.Frag) (mg : Str → Option Value) (base : Heap) (CX : CXT) (k : Nat) (f : Addr) (n : Nat) (psh : List Sh) (fx : Nat) (rsh : Sh) (g : List D → R D) : Prop where
  ex : ∃ fd ps, FnG P w K mg base CX k f fd ps (spV K mg n psh fx rsh g) ∧ Binds K fd ps []
theorem nlp_of {P : Program} {w : World} {K : PySem.W.Frag} {mg : Str → Option Value} {base : Heap} {CX : CXT} {k n : Nat} {f : Addr} {fd : FuncData} {ps : List Str} {psh : List Sh} {fx : Nat} {rsh : Sh} {g : List D → R D}
    (G : FnG P w K mg base CX k f fd ps (spV K mg n psh fx rsh g)) (hb : Binds K fd ps []) : Nlp P w K mg base CX k f n psh fx rsh g := ⟨fd, ps, G, hb⟩
theorem Nlp.nl {P : Program} {w : World} {K : PySem.W.Frag} {mg : Str → Option Value} {base : Heap} {CX : CXT} {j k n : Nat} {f : Addr} {psh : List Sh} {fx : Nat} {rsh : Sh} {g : List D → R D} (c : Nlp P w K mg base CX j f n psh fx rsh g) (h : j ≤ k)
    {X : Cx} (h1 : X.prog = P) (h2 : X.w = w) (h3 : X.K = K) (h4 : X.mg = mg) (h5 : X.base = base) : ∃ fd ps, FnG X.prog X.w X.K X.mg X.base CX k f fd ps (spV X.K X.mg n psh fx rsh g) ∧ Binds X.K fd ps [] := by
  subst h1 h2 h3 h4 h5
  obtain ⟨fd, ps, G, hb⟩ := c.ex
  exact ⟨fd, ps, G.mono h, hb⟩
section
variable {X : Cx} {CX : CXT} {k n : Nat} {y m f : Str} {g : List D → R D} {ks : List Sh} {W : WX} {e c : Expr} {es : List Expr} {p p' pos pos' apos : Pos} {t : TA} {tc : TE} {ma : MA} {mc : ME} {rsh s sh : Sh} {C : Addr} {sf : List (Str × Sh)} (K : PySem.W.Frag) (hK : X.K = K)
include hK
theorem kv_fldO (i j : Nat) (cl : Cls K C) (na : NoAttr K C f) (hs : sf[j]? = some (f, .leaf) := by rfl) (nd : (sf.map Prod.fst).Nodup := by decide) (hk : ks[i]? = some (.ins C sf) := by rfl) (hN : X.N[i]? = some y := by rfl)
    (hvi : Vis X.env.scope y := by first | exact Or.inl rfl | exact Or.inr (Or.inl rfl) | exact Or.inr (Or.inr rfl)) (hd : (y == ("__debug__" : Str)) = false := by decide) (hcd : (y == ("__classdict__" : Str)) = false := by decide)
    (hb : attributeBase (.Name y p) f X.env (eval (.Name y p) X.env) = eval (.Name y p) X.env := by rfl) : EV X ks W (.Attribute (.Name y p) f pos) .leaf (tFld K (tVar i) f) (mFd i j) := by
  subst hK; exact ev_fldO i j cl na hs nd hk hN hvi hd hcd hb
theorem kl_fld (i j : Nat) (cl : Cls K C) (na : NoAttr K C f) (hsh : s = .leaf ∨ s = .lst .leaf ∨ s = .dic .leaf) (hs : sf[j]? = some (f, s) := by rfl) (nd : (sf.map Prod.fst).Nodup := by decide) (hk : ks[i]? = some (.ins C sf) := by rfl) (hN : X.N[i]? = some y := by rfl)
    (hvi : Vis X.env.scope y := by first | exact Or.inl rfl | exact Or.inr (Or.inl rfl) | exact Or.inr (Or.inr rfl)) (hd : (y == ("__debug__" : Str)) = false := by decide) (hcd : (y == ("__classdict__" : Str)) = false := by decide)
    (hb : attributeBase (.Name y p) f X.env (eval (.Name y p) X.env) = eval (.Name y p) X.env := by rfl) : EL X ks W (.Attribute (.Name y p) f pos) (tFld K (tVar i) f) (mFd i j) := by
  subst hK; exact el_fld i j cl na hsh hs nd hk hN hvi hd hcd hb
theorem kv_fix (i j : Nat) {r : R2} (ho : IxR X r) (hop : Op2 K sh r ixD) (cl : Cls K C) (na : NoAttr K C f) (hc : EV X ks W c .leaf tc mc) (hsh : s = .leaf ∨ s = .lst .leaf ∨ s = .dic .leaf) (hs : sf[j]? = some (f, s) := by rfl) (nd : (sf.map Prod.fst).Nodup := by decide) (hk : ks[i]? = some (.ins C sf) := by rfl) (hN : X.N[i]? = some y := by rfl)
    (hvi : Vis X.env.scope y := by first | exact Or.inl rfl | exact Or.inr (Or.inl rfl) | exact Or.inr (Or.inr rfl)) (hd : (y == ("__debug__" : Str)) = false := by decide) (hcd : (y == ("__classdict__" : Str)) = false := by decide)
    (hb : attributeBase (.Name y p) f X.env (eval (.Name y p) X.env) = eval (.Name y p) X.env := by rfl) (hx : PlainIx c := by exact fun _ _ => rfl) : EV X ks W (.Subscript (.Attribute (.Name y p) f pos) c pos') sh (tOp r (tFld K (tVar i) f) tc) (mFix i j mc) := by
  subst hK; exact ev_fix i j ho hop cl na hc hsh hs nd hk hN hvi hd hcd hb hx
theorem kv_meth (mg : Str → Option Value) (hmg : X.mg = mg) (i : Nat) (cl : Cls K C) (c : Ml X CX k C m (n + 1) (.ins C sf :: leaves n) 1 rsh g) (hx : ∀ σ, PassesAt CX X σ (WE W σ)) (hr : Room k X.A) (hgd : X.A.guards = some []) (ha : EA X ks W (e :: es) t ma) (nm : m ∉ sf.map Prod.fst := by decide) (hk : ks[i]? = some (.ins C sf) := by rfl) (hN : X.N[i]? = some y := by rfl)
    (hv : Vis X.env.scope y := by first | exact Or.inl rfl | exact Or.inr (Or.inl rfl) | exact Or.inr (Or.inr rfl)) (hd : (y == ("__debug__" : Str)) = false := by decide) (hcd : (y == ("__classdict__" : Str)) = false := by decide) {pl : Sem Bool}
    (hst : starEach (e :: es) X.env = (false, eval e X.env) :: starEach es X.env := by rfl) (hpl : (backTo pos (starEach es X.env)).any (·.1) = false := by rfl)
    (ht : eval (.Call (.Attribute (.Name y p') m apos) (e :: es) [] pos) X.env = (do
      let ov ← eval (.Name y p') X.env
      standAt apos.atName
      let (f, first) ← holding [ov] (getMethod ov m pl)
      callWith pos f first (backTo pos (starEach (e :: es) X.env)) (backToKw pos (keywordEach [] X.env))) := by rfl) :
    EV X ks W (.Call (.Attribute (.Name y p') m apos) (e :: es) [] pos) rsh (tMethG C m (spV K mg (n + 1) (.ins C sf :: leaves n) 1 rsh g) (WE W) (tVar i) t) (mCall1 i n g ma) := by
  subst hK hmg; exact ev_meth i cl c hx hr hgd ha nm hk hN hv hd hcd hst hpl ht
theorem kv_meth0 (mg : Str → Option Value) (hmg : X.mg = mg) (i : Nat) (cl : Cls K C) (c : Ml X CX k C m 1 [.ins C sf] 1 rsh g) (hx : ∀ σ, PassesAt CX X σ (WE W σ)) (hr : Room k X.A) (hgd : X.A.guards = some []) (nm : m ∉ sf.map Prod.fst := by decide) (hk : ks[i]? = some (.ins C sf) := by rfl) (hN : X.N[i]? = some y := by rfl)
    (hv : Vis X.env.scope y := by first | exact Or.inl rfl | exact Or.inr (Or.inl rfl) | exact Or.inr (Or.inr rfl)) (hd : (y == ("__debug__" : Str)) = false := by decide) (hcd : (y == ("__classdict__" : Str)) = false := by decide) {pl : Sem Bool}
    (ht : eval (.Call (.Attribute (.Name y p') m apos) [] [] pos) X.env = (do
      let ov ← eval (.Name y p') X.env
      standAt apos.atName
      let (f, first) ← holding [ov] (getMethod ov m pl)
      callWith pos f first (backTo pos (starEach [] X.env)) (backToKw pos (keywordEach [] X.env))) := by rfl) :
    EV X ks W (.Call (.Attribute (.Name y p') m apos) [] [] pos) rsh (tMethG C m (spV K mg 1 [.ins C sf] 1 rsh g) (WE W) (tVar i) tNil) (mCall1 i 0 g mNil) := by
  subst hK hmg; exact ev_meth0 i cl c hx hr hgd nm hk hN hv hd hcd ht
end
/-! ### a key and a tuple -/
def catKD : D → D → Option D
  | .key ks, .tup ys => if ys ≠ [] ∧ ks.length + ys.length ≤ 16777216 then some (.tup (ks.map keyD ++ ys)) else none
  | _, _ => none
theorem s_catK {K : PySem.W.Frag} : Op2 K .leaf (rCatF K) catKD := by
  intro F H x y d e z Q sm hx hy h ok
  unfold catKD at h
  split at h
  · rename_i ks ys
    split at h
    · rename_i hc
      cases h
      obtain ⟨a, rfl, ha, ra⟩ := hx.keyR sm
      obtain ⟨b, vs, rfl, hb, rb⟩ := hy.tupE
      have hl := rb.length
      refine ⟨a, b, ks.map kV, vs, rfl, rfl, ha, (hb.mono sm.sm).sq K, by rw [List.length_map, hl]; exact line_ok hc.2, fun z => ?_, fun _ z => ?_, fun _ _ p us n => ?_⟩
      · have : ks = [] := List.map_eq_nil_iff.mp z
        subst this
        exact ok.here sm (.tup hb rb)
      · subst z
        exact absurd (List.eq_nil_of_length_eq_zero hl.symm) hc.1
      · exact ok.newT sm (ra.append rb) n
    · cases h
  · cases h
theorem k_catK {X : Cx} (K : PySem.W.Frag) (hK : X.K = K) : OpR X (binaryOp .Add) (rCatF K) := hK ▸ op_catF
end VL
/-! V52: making and changing instances, with the module's part named. -/
namespace VL
open PySem PySem.Spec L2
section
variable {X : Cx} {CX : CXT} {k n : Nat} {y m f : Str} {g : List D → R D} {ks : List Sh} {W : WX} {e c value : Expr} {es : List Expr} {p p' p3 pos pos' apos : Pos} {t : TA} {ta tc tv : TE} {ma : MA} {mc mv : ME} {rsh s sh : Sh} {fx : Nat} {C : Addr} {sf : List (Str × Sh)} (K : PySem.W.Frag) (hK : X.K = K)
include hK
theorem kv_new (mg : Str → Option Value) (hmg : X.mg = mg) {c : Str} {f : Addr} (M : Mk K C f) (G : ∃ fd ps, FnG X.prog X.w X.K X.mg X.base CX k f fd ps (spV X.K X.mg (n + 1) (.ins C sf :: leaves n) 1 .leaf g) ∧ Binds X.K fd ps []) (hx : ∀ σ, PassesAt CX X σ (WE W σ)) (hr : Room (k + 1) X.A) (hgd : X.A.guards = some []) (hm : mg y = some (.ref C)) (ha : EA X ks W (e :: es) t ma) (hg : Gl X y := by rfl) (hdb : (y == ("__debug__" : Str)) = false := by decide)
    (he : starEach (e :: es) X.env = (false, eval e X.env) :: starEach es X.env := by rfl) (hpl : (backTo pos (starEach es X.env)).any (·.1) = false := by rfl) : EV X ks W (.Call (.Name y p) (e :: es) [] pos) (.ins C sf) (tMakeG C (spV K mg (n + 1) (.ins C sf :: leaves n) 1 .leaf g) (WE W) t) (mNew c n g ma) := by
  subst hK hmg; exact ev_new M G hx hr hgd hm ha hg hdb he hpl
theorem kv_fput (i j : Nat) {mc mv : ME} (hu : X.A.units + 1 < cLine) (cl : Cls K C) (na : NoAttr K C f) (hc : EV X ks W c .leaf tc mc) (hv : EV X ks W value .leaf tv mv) (hs : sf[j]? = some (f, .dic .leaf) := by rfl) (nd : (sf.map Prod.fst).Nodup := by decide) (hk : ks[i]? = some (.ins C sf) := by rfl) (hN : X.N[i]? = some y := by rfl)
    (hvi : Vis X.env.scope y := by first | exact Or.inl rfl | exact Or.inr (Or.inl rfl) | exact Or.inr (Or.inr rfl)) (hd : (y == ("__debug__" : Str)) = false := by decide) (hcd : (y == ("__classdict__" : Str)) = false := by decide)
    (hb : attributeBase (.Name y p) f X.env (eval (.Name y p) X.env) = eval (.Name y p) X.env := by rfl)
    (hsw : swapsWith value (some (.Subscript (.Attribute (.Name y p) f pos') c pos)) p3.line X.env = pure false := by rfl) : SV X ks W rsh fx (.Assign [.Subscript (.Attribute (.Name y p) f pos') c pos] value p3) (sDPut (tFld K (tVar i) f) tc tv) (mFput i j mc mv) := by
  subst hK; exact sv_fput i j hu cl na hc hv hs nd hk hN hvi hd hcd hb hsw
theorem kv_fset (i j : Nat) {m : ME} (cl : Cls K C) (na : NoAttr K C f) (hv : EV X ks W value s tv m) (hs : sf[j]? = some (f, s) := by rfl) (nd : (sf.map Prod.fst).Nodup := by decide) (hl : sf.length < 1000 := by decide) (hk : ks[i]? = some (.ins C sf) := by rfl) (hN : X.N[i]? = some y := by rfl)
    (hvi : Vis X.env.scope y := by first | exact Or.inl rfl | exact Or.inr (Or.inl rfl) | exact Or.inr (Or.inr rfl)) (hd : (y == ("__debug__" : Str)) = false := by decide) (hcd : (y == ("__classdict__" : Str)) = false := by decide)
    (hsw : swapsWith value (some (.Attribute (.Name y p) f pos')) p3.line X.env = pure false := by rfl) : SV X ks W rsh fx (.Assign [.Attribute (.Name y p) f pos'] value p3) (sFld K (tVar i) tv f) (mFset i j f m) := by
  subst hK; exact sv_fset i j cl na hv hs nd hl hk hN hvi hd hcd hsw
end
end VL
/-! V53: reversed(range(n)). -/
namespace VL
open PySem PySem.Spec L2
theorem walks_rngC {K : PySem.W.Frag} {F0 : Hp} {lo : Int} {n : Nat} : Walks K (Itc (lo + (n : Nat) - 1) (-1) n) (rangeD lo n).reverse F0 := by
  intro i F H s1 s2
  have hl : (rangeD lo n).length = n := by simp [rangeD]
  refine ⟨fun d hd => ?_, fun h => by rw [List.length_reverse, hl] at h; exact h⟩
  obtain ⟨hi, hd⟩ := get_rev hd
  rw [hl] at hi hd
  have e : d = .int (lo + (n : Nat) - 1 + (i : Nat) * (-1)) := by
    unfold rangeD at hd
    rw [List.getElem?_map, List.getElem?_range (by omega)] at hd
    have hd := Option.some.inj hd
    have e1 : lo + ((n - 1 - i : Nat) : Int) = lo + (n : Nat) - 1 + (i : Nat) * (-1) := by omega
    rw [← hd, ← e1]
  subst e
  exact ⟨hi, fun x H' ⟨h1, h2⟩ => by subst h1; subst h2; exact ⟨F, .refl s2, .int _⟩⟩
def mRvR1 (ma : MA) : MA := fun ρ => (ma ρ).bind fun ds ρ1 => (mRng1 ds ρ1).bind fun es ρ2 => .ok es.reverse ρ2
section
variable {X : Cx} {ks : List Sh} {W : WX} {tg a : Expr} {p q pos pos2 : Pos}
theorem iv_revR1 {t : TE} {m : ME} (ha : EV X ks W a .leaf t m) (hm : X.mg "reversed" = none) (hm2 : X.mg "range" = none) (hg : Gl X "reversed" := by rfl) (hg2 : Gl X "range" := by rfl) (na : starEach [a] X.env = (false, eval a X.env) :: starEach [] X.env := by rfl)
    (hs : starEach [.Call (.Name "range" q) [a] [] pos2] X.env = (false, eval (.Call (.Name "range" q) [a] [] pos2) X.env) :: starEach [] X.env := by rfl) : IV X ks W tg (.Call (.Name "reversed" p) [.Call (.Name "range" q) [a] [] pos2] [] pos) (iRevR (tRg1 t)) (mRvR1 (mCons m mNil)) := by
  refine ⟨pi_revR hg hm (prg_1 hg2 hm2 ha.pe na) hs, fun ρ σ F H fp Q α Ok f r hok hn hx k => ?_⟩
  unfold mRvR1 at hok
  rw [bind_assoc] at hok
  unfold mCons mNil at hok
  rw [bind_assoc] at hok
  refine ha.sd.go r (Ok := Ok) hok hn hx fun d ρ1 v F1 H1 fp1 h1 r1 x1 p1 => ?_
  cases d with
  | int j =>
    cases p1
    have h2 : Ok (((if -1000000 ≤ j ∧ j ≤ 1000000 then R.ok (rangeD 0 j.toNat) ρ1 else R.no).bind fun es ρ2 => R.ok es.reverse ρ2).bind f) := h1
    by_cases c : -1000000 ≤ j ∧ j ≤ 1000000
    · rw [if_pos c] at h2
      have e0 : (j - 0).toNat = j.toNat := by rw [Int.sub_zero]
      have w := walks_rngC (K := X.K) (F0 := F1) (lo := 0) (n := j.toNat)
      refine ⟨j, rfl, by decide, by decide, by omega, by omega, ?_⟩
      rw [e0]
      exact k _ ρ1 _ F1 H1 fp1 h2 r1 x1 w
    · rw [if_neg c] at h2
      exact (hn h2).elim
  | _ => exact (hn h1).elim
end
end VL
/-! V54: list(d), d a dict: its keys. -/
namespace VL
open PySem PySem.Spec L2
def keysLD : D → Option D
  | .dK ds => if ds.all (fun kv => ascK kv.1) = true then some (.lst (ds.map fun kv => keyD kv.1)) else none
  | .dT ds => if ds.all (fun kv => kv.1.all ascK) = true then some (.lst (ds.map fun kv => .key kv.1)) else none
  | _ => none
theorem reps_keysK {K : PySem.W.Frag} {F : Hp} : ∀ {kvs : List (Key × V)} {ds : List (Key × D)}, kvs.map Prod.fst = ds.map Prod.fst → (∀ kv ∈ ds, ascK kv.1 = true) → Reps K F (kvs.map fun kv => kV kv.1) (ds.map fun kv => keyD kv.1)
  | [], [], _, _ => .nil
  | (k, v) :: kvs, (k', d) :: ds, e, h => by
    have e1 : k = k' := (List.cons.inj e).1
    subst e1
    exact .cons (rep_key k (h _ List.mem_cons_self)) (reps_keysK (List.cons.inj e).2 fun x m => h x (List.mem_cons_of_mem _ m))
  | [], _ :: _, e, _ => by cases e
  | _ :: _, [], e, _ => by cases e
theorem reps_keysT {K : PySem.W.Frag} {F H : Hp} (s : Sub F H) : ∀ {kvs : List (List Key × V)} {ds : List (List Key × D)} {bs : List Addr}, IsKeys H kvs bs → kvs.map Prod.fst = ds.map Prod.fst → (∀ kv ∈ ds, kv.1.all ascK = true) → Reps K F (bs.map V.ref) (ds.map fun kv => .key kv.1)
  | _, [], _, .nil, _, _ => .nil
  | _, (k', d) :: ds, _, .cons (a := (k, v)) hb t, e, h => by
    have e1 : k = k' := (List.cons.inj e).1
    subst e1
    exact .cons (.key (s.tp _ _ hb) (h _ List.mem_cons_self)) (reps_keysT s t (List.cons.inj e).2 fun x m => h x (List.mem_cons_of_mem _ m))
  | _, _ :: _, _, .nil, e, _ => by cases e
  | _, [], _, .cons _ _, e, _ => by cases e
abbrev rKeysL : List V → Hp → VK → Prop := fun xs H Q => (∃ (a : Addr) (kvs : List (Key × V)), xs = [.ref a] ∧ Rd H a (.dK kvs) ∧ ∀ p, H p = none → Q (.ref p) (upd H p (.lst (kvs.map fun kv => kV kv.1)))) ∨
  (∃ d kvs, xs = [V.ref d] ∧ Rd H d (.dT kvs) ∧ ∀ p bs, H p = none → IsKeys H kvs bs → Q (.ref p) (upd H p (.lst (bs.map V.ref))))
theorem cr_keysL {X : Cx} (hc : X.calm = true) : CallR X (.type "list") rKeysL := (call_listD hc).or (call_list_dT hc)
theorem s_keysL {K : PySem.W.Frag} : OpN K (.lst .leaf) rKeysL (one keysLD) := by
  refine s_one fun F H x d z Q sm h e ok => ?_
  unfold keysLD at e
  split at e
  · split at e
    · rename_i ds ha
      cases e
      obtain ⟨p, kvs, e1, e2, e3, r⟩ := h.dKE sm
      subst e1
      exact .inl ⟨_, kvs, rfl, e2, fun q n => ok.newL sm (reps_keysK e3 fun kv m => List.all_eq_true.mp ha kv m) n⟩
    · cases e
  · split at e
    · rename_i ds ha
      cases e
      obtain ⟨p, kvs, e1, e2, e3, r⟩ := h.dTE sm
      subst e1
      exact .inr ⟨_, kvs, rfl, e2, fun q bs n ik => ok.newL sm (reps_keysT sm ik e3 fun kv m => List.all_eq_true.mp ha kv m) n⟩
    · cases e
  · cases e
end VL
/-! V55: x[i], x[j] = a, b: two places of an owned list. -/
namespace VL
open PySem PySem.Spec L2
theorem ixN_in {n : Nat} {k : Int} (h0 : 0 ≤ k) (h1 : k < n) : ixN n k = some k.toNat := by
  unfold ixN
  rw [if_pos h0, if_pos h1]
def mSwp (l i j : Nat) (m : ME) : MS := fun ρ => (m ρ).bind fun d ρ1 => match d, own ρ1 l, own ρ1 i, own ρ1 j with
  | .tup [a, b], some (.lst ds), some (.int k), some (.int k2) => if 0 ≤ k ∧ k < ds.length ∧ 0 ≤ k2 ∧ k2 < ds.length then .ok .nx (ρ1.set l (some (.lst ((ds.set k.toNat a).set k2.toNat b)))) else .no
  | _, _, _, _ => .no
section
variable {X : Cx} {ks : List Sh} {W : WX} {rsh : Sh} {fx : Nat} {e : Expr} {te : TE} {m : ME} {x y z : Str} {p1 p2 p3 p4 p5 p6 pt pos : Pos} {kt : Nat}
theorem leaf_int {b : Bd} {ρ : DEnv} {σ : St} {F H : Hp} {fp : List Addr} {i : Nat} {k : Int} (r : Rel b.K b.ks F H ρ σ fp) (hk : b.ks[i]? = some .leaf) (e : own ρ i = some (.int k)) : σ[i]? = some (some (.int k)) := by
  obtain ⟨v, f, g, s1, o, _, _⟩ := r.sl.split hk (getE e)
  obtain ⟨q, _⟩ := o.leafE
  cases q
  exact s1
theorem kv_swap (K : PySem.W.Frag) (hK : X.K = K) (l i j : Nat) (hc : X.calm = true) (he : EV X ks W e .leaf te m) (hl : ks[l]? = some (.lst .leaf) := by rfl) (hi : ks[i]? = some .leaf := by rfl) (hj : ks[j]? = some .leaf := by rfl)
    (hNl : X.N[l]? = some x := by rfl) (hNi : X.N[i]? = some y := by rfl) (hNj : X.N[j]? = some z := by rfl)
    (hvl : Vis X.env.scope x := by first | exact Or.inl rfl | exact Or.inr (Or.inl rfl) | exact Or.inr (Or.inr rfl)) (hdl : (x == ("__debug__" : Str)) = false := by decide) (hcl : (x == ("__classdict__" : Str)) = false := by decide)
    (hvi : Vis X.env.scope y := by first | exact Or.inl rfl | exact Or.inr (Or.inl rfl) | exact Or.inr (Or.inr rfl)) (hdi : (y == ("__debug__" : Str)) = false := by decide) (hci : (y == ("__classdict__" : Str)) = false := by decide)
    (hvj : Vis X.env.scope z := by first | exact Or.inl rfl | exact Or.inr (Or.inl rfl) | exact Or.inr (Or.inr rfl)) (hdj : (z == ("__debug__" : Str)) = false := by decide) (hcj : (z == ("__classdict__" : Str)) = false := by decide)
    (hs : swapsWithSole [.Tuple [.Subscript (.Name x p1) (.Name y p2) p3, .Subscript (.Name x p4) (.Name z p5) p6] kt pt] e pos.line X.env = pure false := by rfl)
    (hw : swappedStores [.Tuple [.Subscript (.Name x p1) (.Name y p2) p3, .Subscript (.Name x p4) (.Name z p5) p6] kt pt] e X.env = pure none := by rfl) :
    SV X ks W rsh fx (.Assign [.Tuple [.Subscript (.Name x p1) (.Name y p2) p3, .Subscript (.Name x p4) (.Name z p5) p6] kt pt] e pos) (tAsg te (gTup K 2 (gCons (gSub (tVar l) (tVar i) rSetL) (gCons (gSub (tVar l) (tVar j) rSetL) gNil)))) (mSwp l i j m) := by
  subst hK
  refine ⟨ps_asg he.pe (pg_tup hc (pgs_cons (pg_sub (pe_var hNl hvl hdl hcl) (pe_var hNi hvi hdi hci) set_list) (pgs_cons (pg_sub (pe_var hNl hvl hdl hcl) (pe_var hNj hvj hdj hcj) set_list) pgs_nil))) hs hw, fun ρ σ F H fp D r hok => ?_⟩
  unfold mSwp at hok
  refine he.sd.go r (Ok := OkS (bd X ks W) rsh fx F H fp σ D) hok (fun z => z) (fun _ _ z => z.x) fun d ρ1 v F1 H1 fp1 h1 r1 x1 q1 => ?_
  split at h1
  · rename_i a b ds k k2 el ei ej
    split at h1
    · rename_i hb
      obtain ⟨b0, b1, b2, b3⟩ := hb
      cases q1 with
      | @tup w vs _ g1 g2 =>
        cases g2 with
        | cons ra g2 =>
          cases g2 with
          | cons rb g2 =>
            cases g2
            obtain ⟨p, vs, s1, nF, eH, rv, step⟩ := r1.ownL hl el
            have si := leaf_int (b := bd X ks W) r1 hi ei
            have sj := leaf_int (b := bd X ks W) r1 hj ej
            have len := rv.length
            refine ⟨_, _, rfl, (g1.mono r1.sub.sm).sq X.K, rfl, _, _, rfl, ?_⟩
            refine ⟨.ref p, s1, .int k, si, p, vs, k, k.toNat, rfl, rfl, eH, ixN_in b0 (by omega), ?_⟩
            refine ⟨_, _, rfl, .ref p, s1, .int k2, sj, p, _, k2, k2.toNat, rfl, rfl, upd_same, ixN_in b2 (by rw [List.length_set]; omega), ?_⟩
            rw [upd_upd]
            obtain ⟨gp, r2, x2⟩ := step _ _ (Reps.set rb k2.toNat (Reps.set ra k.toNat rv))
            exact ⟨rfl, h1 σ F1 _ gp r2 (x1.trans x2) rfl⟩
    · exact (show False from h1).elim
  · exact (show False from h1).elim
end
end VL
set_option maxHeartbeats 1000000
/-! V56: x[a:c] = another list, x owned. -/
namespace VL
open PySem PySem.Spec L2 PyProof.Rows
theorem bounds_cut {a c n : Nat} (hac : a ≤ min c n) : sliceBounds (some (a : Int)) (some (c : Int)) none n = ((a : Int), ((min c n : Nat) : Int), 1) := by
  simp only [sliceBounds, Option.getD_none]
  have h1 : ¬ ((a : Int) < 0) := by omega
  have h2 : ¬ ((c : Int) < 0) := by omega
  simp only [h1, h2, if_false, show (1 : Int) > 0 by decide, if_true]
  congr 1
  · omega
  · congr 1; omega
section
variable {prog : Program} {w : World} {A : Around} {E : Value → Shared → Prop} {s : Shared}
theorem setItem_cut {l b sl : Addr} {items new : Array Value} {n n2 : Nat} {vl vu : Value} {a c0 c : Nat} {Q : Unit → Shared → Prop}
    (e : s.heap.get? l = some { cls := .type "list", data := .seq items n }) (e2 : s.heap.get? b = some { cls := .type "list", data := .seq new n2 }) (hne : l ≠ b)
    (hs : s.heap.IsSliceOf sl vl vu .none) (pl : IsPart vl (some (a : Int))) (pu : IsPart vu (some (c0 : Int))) (ec : c = min c0 items.size) (hac : a ≤ c)
    (hsz : items.size + new.size ≤ sizeLine) (h : Q () { s with heap := s.heap.update l (Obj.mapSeq fun xs => xs.extract 0 a ++ new ++ xs.extract c xs.size) }) :
    wpAny (model prog w) A (setItem (.ref l) (.ref sl) (.ref b)) Q E s := by
  have hc : c ≤ items.size := by omega
  have hl : s.heap.IsList l items := PySem.IsL.isList e
  have hb : s.heap.IsList b new := PySem.IsL.isList e2
  obtain ⟨os, hos, hcs, hds⟩ := id hs
  have hTs : s.TypeIs (.ref sl) "slice" := ⟨os, hos, hcs⟩
  have hstep : ¬ ((rawPart none == rawInt 0) = true) := Bool.false_ne_true
  have hsame : Builtin.List.listSameRef (.ref l) (.ref b) = false := by
    unfold Builtin.List.listSameRef
    exact beq_eq_false_iff_ne.mpr hne
  have hmax : (max (a : Int) (c : Int)).toNat = c := by omega
  have hz' : ((fun xs : Array Value => xs.extract 0 a ++ new ++ xs.extract c xs.size) items).size ≤ sizeLine + 1 := by
    simp only [Array.size_append, Array.size_extract]
    omega
  unfold setItem
  try with_reducible refine wpAny_holding ?_
  first | refine wpAny_bind (wpAny_pure ?_) | skip
  refine wpAny_bind (wpAny_sequenceKey hl.typeIs (by decide) ?_)
  refine wpAny_bind (wpAny_callSpecial?_slot (name := Str.ofString "__setitem__") hl.typeIs slot_list_setitem
    (wpAny_call_entry slot_list_setitem hl.typeIs entry_list_setitem ?_ (args_list_setitem _ _ _)))
  show wpAny _ _ (Builtin.List.listSubscript? (.ref sl) >>= _) _ _ s
  refine wpAny_bind ?_
  unfold Builtin.List.listSubscript?
  refine wpAny_bind (wpAny_specialOf hTs slice_no_index ?_)
  simp only [Option.isNone_none, if_true]
  refine wpAny_pure ?_
  show wpAny _ _ (typeOf (.ref sl) >>= _) _ _ s
  refine wpAny_bind (wpAny_typeOf hTs ?_)
  first
    | rw [if_neg (by decide)]
    | refine PySem.W.KFB.if_not (by decide) ?_
  rw [listSliceParts_eq]
  refine wpAny_bind (wpAny_bind (wpAny_field hos hds (x := .none) rfl (wpAny_bind (wpAny_listPart .none ?_))))
  rw [if_neg hstep]
  refine wpAny_bind (wpAny_field hos hds (x := vl) rfl (wpAny_bind (wpAny_listPart pl ?_)))
  refine wpAny_bind (wpAny_field hos hds (x := vu) rfl (wpAny_bind (wpAny_listPart pu (wpAny_pure ?_))))
  first
    | simp only [hsame, Bool.false_eq_true, if_false]
    | refine PySem.W.KFB.if_not hsame ?_
    | (dsimp only
       rw [if_neg (by rw [hsame]; exact Bool.false_ne_true)])
  refine wpAny_bind (m := Builtin.List.listAllItems (.ref b) "must assign iterable to extended slice") ?_
  unfold Builtin.List.listAllItems
  refine wpAny_bind (wpAny_typeOf hb.typeIs ?_)
  first
    | refine PySem.W.KFB.if_so (by decide) ?_
    | rw [if_pos (by decide)]
    | simp only [beq_self_eq_true, Bool.true_or, if_true]
  unfold Builtin.List.listItems
  refine wpAny_bind (wpAny_seqItems e2 rfl (wpAny_pure ?_))
  refine wpAny_bind (wpAny_bind (wpAny_seqItems e rfl (wpAny_pure ?_)))
  refine wpAny_bind (wpAny_of_eq ((sliceIndices_raw (some (a : Int)) (some (c0 : Int)) none items.size (by simp)).trans (congrArg (pure : Int × Int × Int → Sem (Int × Int × Int)) ((bounds_cut (ec ▸ hac)).trans (by rw [← ec])))) ?_)
  show wpAny _ _ (if ((1 : Int) == 1) = true then _ else _) _ _ s
  rw [if_pos (by decide)]
  refine wpAny_bind (wpAny_rule ?_)
  first
    | simp only [notLongL hsz, Bool.false_eq_true, if_false]
    | refine PySem.W.KFB.if_not (notLongL hsz) ?_
  first | refine wpAny_bind (wpAny_pure ?_) | skip
  show wpAny _ _ (updateSeq l (fun xs => xs.extract 0 ((a : Int)).toNat ++ new ++ xs.extract (max (a : Int) (c : Int)).toNat xs.size) >>= _) _ _ s
  rw [hmax, Int.toNat_natCast]
  refine wpAny_bind (wpAny_updateSeq (hz := Nat.le_trans (Nat.le_add_right _ _) hsz) (_hz' := hz') e rfl ?_)
  refine wpAny_bind (wpAny_letGo ?_)
  first
    | exact wpAny_bind (wpAny_pure (wpAny_pure ⟨.none, rfl, wpAny_pure h⟩))
    | exact wpAny_pure ⟨.none, rfl, wpAny_pure h⟩
end
/-- x[a:c] = ys, by values -/
def gCut (to : TE) (ta tc : TO) : TG := fun v σ H Q => to σ H fun o H1 => ta σ H1 fun a H2 => tc σ H2 fun c H3 => ∃ l b xs ys i j, o = .ref l ∧ v = .ref b ∧ a = some i ∧ c = some j ∧ H3 l = some (.lst xs) ∧ H3 b = some (.lst ys) ∧ l ≠ b ∧ 0 ≤ i ∧ i ≤ xs.length ∧ i ≤ j ∧ xs.length + ys.length ≤ sizeLine ∧
  Q σ (upd H3 l (.lst (xs.take i.toNat ++ ys ++ xs.drop (min j.toNat xs.length))))
section
variable {X : Cx}
theorem pg_cut {o : Expr} {lo hi : Option Expr} {to : TE} {ta tc : TO} {p2 pos : Pos} (ho : PE X o to) (hl : PO X lo ta) (hh : PO X hi tc)
    (ha : ∀ v, assign (.Subscript o (.Slice lo hi none p2) pos) X.env v = (do
      let ov ← holding [v] (eval o X.env)
      let iv ← holding [v, ov] (eval (.Slice lo hi none p2) X.env)
      standAt pos
      holding [v, ov, iv] (setItem ov iv v)
      release [iv, v, ov] []) := by intro _; rfl) : PG X (.Subscript o (.Slice lo hi none p2) pos) (gCut to ta tc) := by
  refine ⟨fun pins s σ H v u Q I r h => ?_⟩
  rw [ha]
  refine wpAny_bind (wpAny_holding (thn (ho.run pins s σ H _ I h) fun ov s1 ⟨x, H1, I1, r1, q1⟩ => ?_))
  refine wpAny_bind (wpAny_holding ?_)
  refine wpAny_Slice (thn (hl.run pins s1 σ H1 _ I1 q1) fun vl s2 ⟨a, H2, I2, pl, q2⟩ => thn (hh.run pins s2 σ H2 _ I2 q2) fun vu s3 ⟨c, H3, I3, pu, q3⟩ => ?_)
  rw [evalPart_none]
  refine wpAny_pure ?_
  have I4 : Inv X pins σ H3 { s3 with heap := s3.heap.push { cls := .type "slice", data := .fields #[vl, vu, .none] } } := I3.kept (t' := s3.toks) fun b ob q => Heap.get?_push_of_some _ q
  obtain ⟨l, b, xs, ys, i, j, rfl, rfl, rfl, rfl, hH, hB, hne, h0, h1, hij, hz, q⟩ := q3
  cases r1
  cases r
  refine wpAny_bind (wpAny_standAt (wpAny_bind (wpAny_holding ?_)))
  obtain ⟨z, its, n, r, hl', e⟩ := I4.lstM hH
  obtain ⟨z2, its2, n2, r2, hl2, e2⟩ := I4.lstM hB
  obtain ⟨a', rfl⟩ := Int.eq_ofNat_of_zero_le h0
  obtain ⟨c', rfl⟩ := Int.eq_ofNat_of_zero_le (Int.le_trans h0 hij)
  have len := r.length
  have len2 := r2.length
  simp only [Int.toNat_natCast] at q
  have es : its.toArray.size = xs.length := by rw [List.size_toArray, ← len]
  refine setItem_cut (a := a') (c0 := c') (c := min c' xs.length) e e2 hne (Heap.IsSliceOf.new ..) pl pu (by rw [es]) (by omega) (by rw [es, List.size_toArray, ← len2]; omega) ?_
  refine wpAny_release ⟨σ, _, ?_, q⟩
  refine I4.lset (its' := its.take a' ++ its2 ++ its.drop (min c' xs.length)) (t' := s3.toks) hH e ?_ (Vals.append (Vals.append (r.take _) r2) (r.drop _)) ?_
  · exact splice_eq its its2 a' (min c' xs.length)
  · rw [List.length_append, List.length_append, List.length_take, List.length_drop]
    omega
end
def mCutF (l : Nat) (d : D) (i : Int) (c : D) : MS := fun ρ => match d, c, own ρ l with
  | .lst es, .int j, some (.lst ds) => if 0 ≤ i ∧ i ≤ ds.length ∧ i ≤ j ∧ ds.length + es.length ≤ 16777216 then .ok .nx (ρ.set l (some (.lst (ds.take i.toNat ++ es ++ ds.drop (min j.toNat ds.length))))) else .no
  | _, _, _ => .no
def mCutG (l : Nat) (mh : ME) (d a : D) : MS := fun ρ => match a with
  | .int i => (mh ρ).bind fun c ρ3 => mCutF l d i c ρ3
  | _ => .no
def mCutH (l : Nat) (ml mh : ME) (d : D) : MS := fun ρ => match own ρ l with
  | some (.lst _) => (ml ρ).bind fun a ρ2 => mCutG l mh d a ρ2
  | _ => .no
def mCutS (l : Nat) (ml mh m : ME) : MS := fun ρ => (m ρ).bind fun d ρ1 => mCutH l ml mh d ρ1
section
variable {X : Cx} {ks : List Sh} {W : WX} {rsh : Sh} {fx : Nat} {e lo hi : Expr} {te tl th : TE} {m ml mh : ME} {x : Str} {p1 p2 p3 pos : Pos}
theorem sv_cut (l : Nat) (he : EV X ks W e (.lst .leaf) te m) (hlo : EV X ks W lo .leaf tl ml) (hhi : EV X ks W hi .leaf th mh) (hl : ks[l]? = some (.lst .leaf) := by rfl)
    (hNl : X.N[l]? = some x := by rfl)
    (hvl : Vis X.env.scope x := by first | exact Or.inl rfl | exact Or.inr (Or.inl rfl) | exact Or.inr (Or.inr rfl)) (hdl : (x == ("__debug__" : Str)) = false := by decide) (hcl : (x == ("__classdict__" : Str)) = false := by decide)
    (hs : swapsWithSole [.Subscript (.Name x p1) (.Slice (some lo) (some hi) none p2) p3] e pos.line X.env = pure false := by rfl)
    (hw : swappedStores [.Subscript (.Name x p1) (.Slice (some lo) (some hi) none p2) p3] e X.env = pure none := by rfl) :
    SV X ks W rsh fx (.Assign [.Subscript (.Name x p1) (.Slice (some lo) (some hi) none p2) p3] e pos) (tAsg te (gCut (tVar l) (tPart tl) (tPart th))) (mCutS l ml mh m) := by
  refine ⟨ps_asg he.pe (pg_cut (pe_var hNl hvl hdl hcl) (po_some hlo.pe) (po_some hhi.pe)) hs hw, fun ρ σ F H fp DE r hok => ?_⟩
  unfold mCutS at hok
  refine he.sd ρ σ F H fp _ r ?_
  cases em : m ρ with
  | no => rw [em] at hok; exact (show False from hok).elim
  | ex y ρ1 => rw [em] at hok; exact hok.x
  | ok d ρ1 =>
  rw [em] at hok
  intro v F1 H1 fp1 fw r1 nd1 x1 o1
  have sb : ∀ y ∈ fp1, y ∈ fp1 ++ fw := fun y q => List.mem_append_left _ q
  have h1 : OkS (bd X ks W) rsh fx F1 H1 fp1 σ DE (mCutH l ml mh d ρ1) := OkS.ext (σ1 := σ) (x1.sub sb) rfl hok
  cases o1 with
  | @lst _ b ys es fp' nF eB q =>
  obtain ⟨rq, rfl⟩ := q.leafE
  have nda := List.nodup_append.mp nd1
  have bn : b ∉ fp1 := fun z => nda.2.2 b z b (List.mem_singleton.mpr rfl) rfl
  unfold mCutH at h1
  split at h1
  · rename_i ds0 e0
    obtain ⟨p, vs0, s1, nF0, eH0, q0, _⟩ := r1.ownL hl e0
    obtain ⟨v1, f1, g1, s1', o1', _, pm⟩ := r1.sl.split hl (getE e0)
    rw [s1] at s1'
    cases s1'
    have pf : p ∈ fp1 := by
      cases o1' with
      | lst _ _ _ => exact pm.symm.subset (List.mem_append_left _ List.mem_cons_self)
    have npb : p ≠ b := fun z => bn (z ▸ pf)
    refine ⟨.ref p, s1, ?_⟩
    refine hlo.sd.go r1 (Ok := OkS (bd X ks W) rsh fx F1 H1 fp1 σ DE) h1 (fun z => z) (fun _ _ z => z.x) fun a ρ2 va F2 H2 fp2 h2 r2 x2 ra => ?_
    have h2' := OkS.ext (σ1 := σ) x2 rfl h2
    unfold mCutG at h2'
    split at h2'
    · rename_i i
      cases ra
      refine ⟨i, rfl, ?_⟩
      refine hhi.sd.go r2 (Ok := OkS (bd X ks W) rsh fx F2 H2 fp2 σ DE) h2' (fun z => z) (fun _ _ z => z.x) fun c ρ3 vc F3 H3 fp3 h3 r3 x3 rc => ?_
      have h3' := OkS.ext (σ1 := σ) x3 rfl h3
      unfold mCutF at h3'
      split at h3'
      · rename_i es' j ds ees el
        cases ees
        split at h3'
        · rename_i hb
          obtain ⟨b0, b1, b2, b3⟩ := hb
          cases rc
          refine ⟨j, rfl, ?_⟩
          obtain ⟨p', vs, s3, nF3, eH3, rv, step⟩ := r3.ownL hl el
          rw [s1] at s3
          cases s3
          have k2 := x2.keep b _ eB bn
          have bn2 : b ∉ fp2 := fun z => by
            rcases x2.fr b z with q | q
            · exact bn q
            · rw [eB] at q; cases q
          have k3 := x3.keep b _ k2.1 bn2
          have rq3 := rq.mono fun a o z => r2.same x3 a o (r1.same x2 a o z)
          have len := rv.length
          have lq := rq3.length
          obtain ⟨gp, r4, x4⟩ := step (vs.take i.toNat ++ ys ++ vs.drop (min j.toNat vs.length)) (ds.take i.toNat ++ es ++ ds.drop (min j.toNat ds.length)) (by
            rw [len]
            exact ((rv.take _).append rq3).append (rv.drop _))
          refine ⟨p, b, vs, ys, i, j, rfl, rfl, rfl, rfl, eH3, k3.1, npb, b0, by omega, b2, by rw [len, lq]; exact line_ok b3, ?_⟩
          exact h3' σ F3 _ gp r4 x4 rfl
        · exact (show False from h3').elim
      · exact (show False from h3').elim
    · exact (show False from h2').elim
  · exact (show False from h1).elim
end
end VL
/-! V57: an owned list is frozen where it stands, for the rest of a block. -/
namespace VL
open PySem PySem.Spec L2
def mFrzS (i : Nat) (m : MS) : MS := fun ρ => match own ρ i with
  | some (.lst _) => (m ρ).mapE (fun ρ => ρ.set i none)
  | _ => .no
theorem set_there {α : Type} {l : List α} {i : Nat} {a : α} (h : l[i]? = some a) : l.set i a = l := by
  obtain ⟨k, e⟩ := List.getElem?_eq_some_iff.mp h
  rw [← e, List.set_getElem_self k]
theorem Rel.frzL {K : PySem.W.Frag} {ks : List Sh} {F H : Hp} {ρ : DEnv} {σ : St} {fp : List Addr} {i : Nat} {ds : List D} (r : Rel K ks F H ρ σ fp) (hk : ks[i]? = some (.lst .leaf)) (e : own ρ i = some (.lst ds)) :
    ∃ F' g, Rel K (ks.set i .leaf) F' H ρ σ g ∧ (∀ a ∈ g, a ∈ fp) ∧ ∀ a, a ∉ fp → F' a = F a := by
  obtain ⟨v, f, g, s1, o, sl, pm⟩ := r.sl.split hk (getE e)
  have nd := pm.nodup_iff.mp r.nd
  have nda := List.nodup_append.mp nd
  have fN : ∀ a ∈ f, F a = none := fun a m => (o.own a m).1
  have sm : Same F (frz F H f) := frz_same fN
  have tp : ∀ a xs, H a = some (.tup xs) → frz F H f a = some (.tup xs) := fun a xs z => by
    by_cases ma : a ∈ f
    · rw [frz_in ma]; exact z
    · rw [frz_out ma]; exact r.sub.tp a xs z
  have rp : Rep K (frz F H f) v (.lst ds) := o.frozen sm fun a ma => by
    rw [frz_in ma]
    cases o with
    | lst q1 q2 q3 =>
      obtain ⟨_, rfl⟩ := q3.leafE
      cases List.mem_singleton.mp ma
      rw [q2]
      exact ⟨(fun xs z => z), (fun _ z => nomatch z), (fun _ z => nomatch z)⟩
  have gs : ∀ y ∈ g, y ∈ fp := fun y m => pm.symm.subset (List.mem_append_right _ m)
  obtain ⟨g', sl2, sb⟩ := sl.resh .leaf i
  have sl3 := sl2.frame sm (H' := H) fun y m => ⟨by
    rw [frz_out fun z => nda.2.2 y z y (sb.subset m) rfl]
    exact (sl.own y (sb.subset m)).1, rfl⟩
  rw [List.set_set] at sl3
  have r3 : Rel K (ks.set i .leaf) (frz F H f) H (ρ.set i none) σ g' := ⟨⟨frz_sub r.sub.sm, tp⟩, nda.2.1.sublist sb, sl3⟩
  have hi : i < ks.length := (List.getElem?_eq_some_iff.mp hk).1
  obtain ⟨gp, r4, s4⟩ := r3.store (fv := []) (.leaf rp) (by rw [List.append_nil]; exact r3.nd) (i := i) (by rw [List.getElem?_set_self hi])
  rw [List.set_set, set_there (getE e), set_there s1] at r4
  refine ⟨_, gp, r4, fun a m => ?_, fun a n => frz_out fun z => n (pm.symm.subset (List.mem_append_left _ z))⟩
  have := s4 a m
  rw [List.append_nil] at this
  exact gs a (sb.subset this)
section
variable {X : Cx} {ks : List Sh} {W : WX} {rsh : Sh} {fx : Nat} {sts : List Stmt} {t : TS} {m : MS}
theorem svs_frzS (i : Nat) (hk : ks[i]? = some (.lst .leaf)) (h : SVs X (ks.set i .leaf) W rsh fx sts t m) : SVs X ks W rsh fx sts t (mFrzS i m) := by
  refine ⟨h.pe, fun ρ σ F H fp D r hok => ?_⟩
  unfold mFrzS at hok
  split at hok
  · rename_i ds e
    obtain ⟨F0, g, r1, s1, k1⟩ := r.frzL hk e
    refine h.sd ρ σ F0 H g D r1 ?_
    obtain ⟨s0, e0⟩ := set_backS ks i .leaf
    have ext : ∀ {F' H' : Hp} {gp fp' : List Addr}, Ext F0 H g F' H' fp' → (∀ y ∈ gp, y ∈ fp') → Ext F H fp F' H' gp := fun x hs => ⟨fun a o e n => by
      obtain ⟨q1, q2⟩ := x.keep a o e fun z => n (s1 a z)
      exact ⟨q1, q2.trans (k1 a n)⟩, fun a ma => by
      rcases x.fr a (hs a ma) with q | q
      · exact .inl (s1 a q)
      · exact .inr q⟩
    cases em : m ρ with
    | no => rw [em] at hok; exact hok
    | ex x ρ1 =>
      rw [em] at hok
      intro cls dx σ' F' H' fp' r' x' q ex
      obtain ⟨gp, r2, s2⟩ := r'.resh i s0
      change Rel X.K ((ks.set i .leaf).set i s0) F' H' (ρ1.set i none) σ' gp at r2
      rw [e0] at r2
      exact hok cls dx σ' F' H' gp r2 (ext x' fun y m => s2.subset m) q ex
    | ok f ρ1 =>
      rw [em] at hok
      cases f with
      | nx =>
        intro σ' F' H' fp' r' x' q
        obtain ⟨gp, r2, s2⟩ := r'.resh i s0
        change Rel X.K ((ks.set i .leaf).set i s0) F' H' (ρ1.set i none) σ' gp at r2
        rw [e0] at r2
        exact hok σ' F' H' gp r2 (ext x' fun y m => s2.subset m) q
      | rt d =>
        intro v σ' F' H' fp' fv r' nd x' q o
        obtain ⟨gp, r2, s2⟩ := r'.resh i s0
        change Rel X.K ((ks.set i .leaf).set i s0) F' H' (ρ1.set i none) σ' gp at r2
        rw [e0] at r2
        refine hok v σ' F' H' gp fv r2 (nd.sublist (List.Sublist.append s2 (.refl _))) (ext x' fun y m => ?_) q o
        rcases List.mem_append.mp m with m | m
        · exact List.mem_append_left _ (s2.subset m)
        · exact List.mem_append_right _ m
  · exact (show False from hok).elim
end
section
variable {ρ : DEnv} {i : Nat} {m : MS}
theorem sat_frzS {ds : List D} {Q : Fl → DEnv → Prop} (h : ρ[i]? = some (some (.lst ds))) (k : Sat (m ρ) fun f ρ1 => Q f (ρ1.set i none)) : Sat (mFrzS i m ρ) Q := by
  obtain ⟨f, ρ1, e, q⟩ := k
  refine ⟨f, ρ1.set i none, ?_, q⟩
  unfold mFrzS
  have ow : own ρ i = some (.lst ds) := by unfold own; rw [h]; rfl
  rw [ow, e]; rfl
end
end VL
/-! V58: a list of any things against the empty list. -/
namespace VL
open PySem PySem.Spec L2
def rL0 (K : PySem.W.Frag) (neg : Bool) : R2 := fun x y H Q => ∃ a b xs, x = .ref a ∧ y = .ref b ∧ SqL K H a xs ∧ SqL K H b [] ∧ Q (.bl (if neg then !xs.isEmpty else xs.isEmpty)) H
theorem op_neL0 {X : Cx} (hu : X.A.units < cLine) : OpR X (compareOp .NotEq) (rL0 X.K true) := by
  intro pins s σ H x y v u Q I rx ry ⟨a, b, xs, ex, ey, ha, hb, q⟩
  subst ex ey
  cases rx
  cases ry
  obtain ⟨its, r1, p1, _⟩ := I.list ha
  obtain ⟨its2, r2, p2, _⟩ := I.list hb
  cases r2
  cases xs with
  | nil =>
    cases r1
    exact (PySem.SeqAt.RcNeAt.lists (e := fun _ => true) p1.isList p2.isList rfl hu fun j h1 h2 => absurd h1 (Nat.not_lt_zero j)) X.prog X.w _ _ ⟨.bl false, H, I, rfl, q⟩
  | cons z xs =>
    cases r1
    exact (PySem.SeqAt.RcNeAt.lists_lengths p1.isList p2.isList (by simp) hu) X.prog X.w _ _ ⟨.bl true, H, I, rfl, q⟩
theorem op_eqL0 {X : Cx} (hu : X.A.units < cLine) : OpR X (compareOp .Eq) (rL0 X.K false) := by
  intro pins s σ H x y v u Q I rx ry ⟨a, b, xs, ex, ey, ha, hb, q⟩
  subst ex ey
  cases rx
  cases ry
  obtain ⟨its, r1, p1, _⟩ := I.list ha
  obtain ⟨its2, r2, p2, _⟩ := I.list hb
  cases r2
  cases xs with
  | nil =>
    cases r1
    exact (PySem.SeqAt.RcAt.lists (e := fun _ => true) p1.isList p2.isList rfl hu fun j h1 h2 => absurd h1 (Nat.not_lt_zero j)) X.prog X.w _ _ ⟨.bl true, H, I, rfl, q⟩
  | cons z xs =>
    cases r1
    exact (PySem.SeqAt.RcAt.lists_lengths p1.isList p2.isList (by simp) hu) X.prog X.w _ _ ⟨.bl false, H, I, rfl, q⟩
def neL0D : D → D → Option D
  | .lst ds, .lst [] => some (.bl (!ds.isEmpty))
  | _, _ => none
def eqL0D : D → D → Option D
  | .lst ds, .lst [] => some (.bl ds.isEmpty)
  | _, _ => none
theorem reps_empty {K : PySem.W.Frag} {F : Hp} {vs : List V} {ds : List D} (r : Reps K F vs ds) : vs.isEmpty = ds.isEmpty := by cases r <;> rfl
theorem s_neL0 {K : PySem.W.Frag} : Op2 K .leaf (rL0 K true) neL0D := by
  intro F H x y d e z Q sm hx hy h ok
  unfold neL0D at h
  split at h
  · rename_i ds
    cases h
    obtain ⟨p, vs, e1, e2, e3⟩ := hx.lstE sm
    obtain ⟨q, ws, e4, e5, e6⟩ := hy.lstE sm
    cases e6
    refine ⟨p, q, vs, e1, e4, .of e2, .of e5, ?_⟩
    rw [reps_empty e3]
    exact ok.here sm (.bl _)
  · cases h
theorem s_eqL0 {K : PySem.W.Frag} : Op2 K .leaf (rL0 K false) eqL0D := by
  intro F H x y d e z Q sm hx hy h ok
  unfold eqL0D at h
  split at h
  · rename_i ds
    cases h
    obtain ⟨p, vs, e1, e2, e3⟩ := hx.lstE sm
    obtain ⟨q, ws, e4, e5, e6⟩ := hy.lstE sm
    cases e6
    refine ⟨p, q, vs, e1, e4, .of e2, .of e5, ?_⟩
    rw [reps_empty e3]
    exact ok.here sm (.bl _)
  · cases h
theorem k_neL0 {X : Cx} (K : PySem.W.Frag) (hK : X.K = K) (hu : X.A.units < cLine) : OpR X (compareOp .NotEq) (rL0 K true) := hK ▸ op_neL0 hu
theorem k_eqL0 {X : Cx} (K : PySem.W.Frag) (hK : X.K = K) (hu : X.A.units < cLine) : OpR X (compareOp .Eq) (rL0 K false) := hK ▸ op_eqL0 hu
end VL
/-! V59: repr of a tuple that holds dicts (and no lists). -/
namespace VL
open PySem PySem.Spec L2
mutual
def D.toPyW : D → PyData
  | .non => .none | .bl b => .bool b | .int i => .int i | .str x => .str x
  | .tup xs => .tuple (toPyWL xs)
  | .dK kvs => .dict (toPyWK kvs)
  | _ => .none
def toPyWL : List D → List PyData
  | [] => []
  | d :: ds => d.toPyW :: toPyWL ds
def toPyWK : List (Key × D) → List (PyData × PyData)
  | [] => []
  | (k, d) :: r => (keyP k, d.toPyW) :: toPyWK r
end
mutual
def D.pyN : D → Bool
  | .non => true | .bl _ => true | .int _ => true | .str x => asc x
  | .tup xs => pyNL xs
  | .dK kvs => pyNK kvs
  | _ => false
def pyNL : List D → Bool
  | [] => true
  | d :: ds => d.pyN && pyNL ds
def pyNK : List (Key × D) → Bool
  | [] => true
  | (k, d) :: r => ascK k && d.pyN && pyNK r
end
mutual
def D.wtW : D → Nat
  | .non => 4 | .bl _ => 5 | .int _ => 2000 | .str x => 10 * x.length + 2
  | .tup xs => wtWL xs + 2 * xs.length + 3
  | .dK kvs => wtWK kvs + 2 * kvs.length + 3
  | _ => 0
def wtWL : List D → Nat
  | [] => 0
  | d :: ds => d.wtW + wtWL ds
def wtWK : List (Key × D) → Nat
  | [] => 0
  | (k, d) :: r => keyW k + d.wtW + 2 + wtWK r
end
theorem pyNK_L : ∀ {kvs : List (Key × D)}, pyNK kvs = true → pyNL (kvs.map Prod.snd) = true
  | [], _ => by rw [List.map_nil, pyNL]
  | (k, d) :: r, h => by
    rw [pyNK, Bool.and_eq_true, Bool.and_eq_true] at h
    rw [List.map_cons, pyNL, Bool.and_eq_true]
    exact ⟨h.1.2, pyNK_L h.2⟩
theorem key_shown {k : Key} (a : ascK k = true) (h : (keyP k).showable = true) : (keyP k).shown.length ≤ keyW k := by
  cases k with
  | inl i =>
    rw [keyP, PyData.showable, decide_eq_true_eq] at h
    exact int_shown h
  | inr x =>
    rw [keyP, PyData.shown]
    exact PySem.StrLaws.reprText_len x fun c m => Nat.lt_of_lt_of_le ((ascE a).1 c m) (by decide)
mutual
theorem D.wtW_le : ∀ (d : D), d.pyN = true → d.toPyW.showable = true → d.toPyW.shown.length ≤ d.wtW
  | .non, _, _ => by rw [D.toPyW, D.wtW]; decide
  | .bl b, _, _ => by rw [D.toPyW, D.wtW]; cases b <;> decide
  | .int i, _, h => by rw [D.toPyW, PyData.showable, decide_eq_true_eq] at h; rw [D.toPyW, D.wtW]; exact int_shown h
  | .str x, a, _ => by
    rw [D.pyN] at a
    rw [D.toPyW, D.wtW, PyData.shown]
    exact PySem.StrLaws.reprText_len x fun c m => Nat.lt_of_lt_of_le ((ascE a).1 c m) (by decide)
  | .tup xs, q, h => by
    rw [D.pyN] at q
    rw [D.toPyW, PyData.showable] at h
    obtain ⟨h1, h2⟩ := wtWL_le xs q h
    rw [D.toPyW, D.wtW, PyData.shown]
    refine Nat.le_trans (PySem.tupleText_len_le _) ?_
    rw [h2]
    omega
  | .dK kvs, q, h => by
    rw [D.pyN] at q
    rw [D.toPyW, PyData.showable] at h
    obtain ⟨h1, h2⟩ := wtWK_le kvs q h
    rw [D.toPyW, D.wtW, PyData.shown]
    refine Nat.le_trans (PySem.dictText_len_le _) ?_
    rw [h2]
    omega
  | .lst _, q, _ => by rw [D.pyN] at q <;> first | cases q | (intros; rintro ⟨⟩)
  | .dT _, q, _ => by rw [D.pyN] at q <;> first | cases q | (intros; rintro ⟨⟩)
  | .ob _ _, q, _ => by rw [D.pyN] at q <;> first | cases q | (intros; rintro ⟨⟩)
  | .scr _, q, _ => by rw [D.pyN] at q <;> first | cases q | (intros; rintro ⟨⟩)
  | .rp _, q, _ => by rw [D.pyN] at q <;> first | cases q | (intros; rintro ⟨⟩)
  | .ty _, q, _ => by rw [D.pyN] at q <;> first | cases q | (intros; rintro ⟨⟩)
  | .key _, q, _ => by rw [D.pyN] at q <;> first | cases q | (intros; rintro ⟨⟩)
theorem wtWL_le : ∀ (ds : List D), pyNL ds = true → PyData.showableAll (toPyWL ds) = true → ((PyData.shownAll (toPyWL ds)).map (·.length)).sum ≤ wtWL ds ∧ (PyData.shownAll (toPyWL ds)).length = ds.length
  | [], _, _ => by rw [toPyWL, PyData.shownAll, wtWL]; exact ⟨Nat.le_refl _, rfl⟩
  | d :: ds, q, h => by
    rw [pyNL, Bool.and_eq_true] at q
    rw [toPyWL, PyData.showableAll, Bool.and_eq_true] at h
    have h1 := D.wtW_le d q.1 h.1
    obtain ⟨h2, h3⟩ := wtWL_le ds q.2 h.2
    rw [toPyWL, PyData.shownAll, wtWL, List.map_cons, List.sum_cons, List.length_cons, List.length_cons, h3]
    exact ⟨by omega, rfl⟩
theorem wtWK_le : ∀ (kvs : List (Key × D)), pyNK kvs = true → PyData.showableKv (toPyWK kvs) = true → ((PyData.shownKv (toPyWK kvs)).map (·.length)).sum ≤ wtWK kvs ∧ (PyData.shownKv (toPyWK kvs)).length = kvs.length
  | [], _, _ => by rw [toPyWK, PyData.shownKv, wtWK]; exact ⟨Nat.le_refl _, rfl⟩
  | (k, d) :: r, q, h => by
    rw [pyNK, Bool.and_eq_true, Bool.and_eq_true] at q
    rw [toPyWK, PyData.showableKv, Bool.and_eq_true, Bool.and_eq_true] at h
    have h0 := key_shown q.1.1 h.1.1
    have h1 := D.wtW_le d q.1.2 h.1.2
    obtain ⟨h2, h3⟩ := wtWK_le r q.2 h.2
    have l2 : ((": " : Str)).length = 2 := rfl
    rw [toPyWK, PyData.shownKv, wtWK, List.map_cons, List.sum_cons, List.length_cons, List.length_cons, h3]
    refine ⟨?_, rfl⟩
    have l : ((keyP k).shown ++ (": " : Str) ++ d.toPyW.shown).length = (keyP k).shown.length + 2 + d.toPyW.shown.length := by
      rw [Str.length_append, Str.length_append, l2]
    rw [l]
    omega
end
theorem kv_vals : ∀ {kvs : List (Key × V)} {vs : List (Key × Value)}, KV kvs vs → Vals (kvs.map Prod.snd) (vs.map Prod.snd)
  | _, _, .nil => .nil
  | _, _, .cons h t => .cons h.2 (kv_vals t)
theorem pairs_of {h : Heap} : ∀ {kvs : List (Key × V)} {vs : List (Key × Value)} {ds : List (Key × D)} {bs : List Addr}, KV kvs vs → kvs.map Prod.fst = ds.map Prod.fst → ReadsAll h (vs.map Prod.snd) (toPyWL (ds.map Prod.snd)) bs →
    ∃ cs, PyProof.V.PairsRead h keyP vs (toPyWK ds) cs ∧ ∀ x ∈ cs, x ∈ bs
  | [], _, [], _, .nil, _, _ => ⟨[], by rw [toPyWK]; exact .nil, fun _ m => by simp at m⟩
  | [], _, _ :: _, _, .nil, e, _ => by cases e
  | _ :: _, _, [], _, _, e, _ => by cases e
  | (k, v) :: kvs, _, (k2, d) :: ds, _, .cons (b := (k3, u)) h1 t, e, r => by
    rw [List.map_cons, List.map_cons] at e
    have e1 := (List.cons.inj e).1
    have e2 := (List.cons.inj e).2
    obtain ⟨h1a, h1b⟩ := h1
    cases (show k = k2 from e1)
    cases (show k = k3 from h1a)
    rw [List.map_cons, List.map_cons, toPyWL] at r
    cases r with
    | cons r1 r2 =>
      obtain ⟨cs, q1, q2⟩ := pairs_of t e2 r2
      refine ⟨_, by rw [toPyWK]; exact .cons r1 q1, fun x m => ?_⟩
      rcases List.mem_append.mp m with m | m
      · exact List.mem_append_left _ m
      · exact List.mem_append_right _ (q2 x m)
theorem key_reads {h : Heap} {k : Key} {v : Value} (e : keyIs k v = true) : Reads h v (keyP k) [] := by
  rcases keyIs_shape e with ⟨i, t, rfl, rfl⟩ | ⟨x, t, rfl, rfl⟩
  · exact .int _ _
  · exact .str _ _
section
variable {X : Cx} {pins : List (Addr × Obj)} {σ : St} {H : Hp} {s : Shared}
mutual
theorem Rep.rdW (I : Inv X pins σ H s) : ∀ {v : V} {d : D}, Rep X.K H v d → d.pyN = true → ∀ {u : Value}, RelV v u → ∃ as, Reads s.heap u d.toPyW as ∧ sysModules ∉ as
  | _, _, .non, _, _, r => by cases r; exact ⟨_, by rw [D.toPyW]; exact Reads.none, by simp⟩
  | _, _, .bl b, _, _, r => by cases r; exact ⟨_, by rw [D.toPyW]; exact Reads.bool b, by simp⟩
  | _, _, .int i, _, _, r => by obtain ⟨t, rfl⟩ := r; exact ⟨_, by rw [D.toPyW]; exact Reads.int i t, by simp⟩
  | _, _, .str x _, _, _, r => by obtain ⟨t, rfl⟩ := r; exact ⟨_, by rw [D.toPyW]; exact Reads.str x t, by simp⟩
  | _, _, .tup e rs, q, _, r => by
    rw [D.pyN] at q
    cases r
    obtain ⟨its, rv, ⟨o, ho, hc, n, hd⟩, _⟩ := I.tuple (e.sq X.K)
    obtain ⟨as, h1, h2⟩ := Reps.rdW I rs q rv
    exact ⟨as, by rw [D.toPyW]; exact Reads.tuple ho hc hd h1, h2⟩
  | _, _, .dK e ek rs, q, _, r => by
    rw [D.pyN] at q
    cases r
    obtain ⟨_, hd, vs, rel, dd⟩ := dk_rd I.hok (.inr ⟨_, e⟩)
    have hv : Vals (List.map Prod.snd _) (vs.map Prod.snd) := kv_vals rel
    obtain ⟨as, h1, h2⟩ := Reps.rdW I rs (pyNK_L q) hv
    obtain ⟨cs, p1, p2⟩ := pairs_of rel ek h1
    refine ⟨_, by rw [D.toPyW]; exact PyProof.V.reads_dictOf (fun k key hk => key_reads hk) dd p1, fun m => ?_⟩
    rcases List.mem_cons.mp m with m | m
    · rw [← m] at hd; simp at hd
    · exact h2 (p2 _ m)
  | _, _, .lst _ _, q, _, _ => by rw [D.pyN] at q <;> first | cases q | (intros; rintro ⟨⟩)
  | _, _, .dT _ _ _, q, _, _ => by rw [D.pyN] at q <;> first | cases q | (intros; rintro ⟨⟩)
  | _, _, .scr _, q, _, _ => by rw [D.pyN] at q <;> first | cases q | (intros; rintro ⟨⟩)
  | _, _, .rp _, q, _, _ => by rw [D.pyN] at q <;> first | cases q | (intros; rintro ⟨⟩)
  | _, _, .ty _, q, _, _ => by rw [D.pyN] at q <;> first | cases q | (intros; rintro ⟨⟩)
  | _, _, .key _ _, q, _, _ => by rw [D.pyN] at q <;> first | cases q | (intros; rintro ⟨⟩)
  | _, _, .ob _ _ _, q, _, _ => by rw [D.pyN] at q <;> first | cases q | (intros; rintro ⟨⟩)
theorem Reps.rdW (I : Inv X pins σ H s) : ∀ {vs : List V} {ds : List D}, Reps X.K H vs ds → pyNL ds = true → ∀ {us : List Value}, Vals vs us → ∃ as, ReadsAll s.heap us (toPyWL ds) as ∧ sysModules ∉ as
  | _, _, .nil, _, _, r => by cases r; exact ⟨[], by rw [toPyWL]; exact .nil, by simp⟩
  | _, _, .cons h t, q, _, r => by
    rw [pyNL, Bool.and_eq_true] at q
    cases r with
    | cons r1 r2 =>
      obtain ⟨as, h1, h2⟩ := Rep.rdW I h q.1 r1
      obtain ⟨bs, h3, h4⟩ := Reps.rdW I t q.2 r2
      exact ⟨as ++ bs, by rw [toPyWL]; exact .cons h1 h3, fun m => (List.mem_append.mp m).elim h2 h4⟩
end
end
def reprWOk (d : D) : Bool := d.pyN && d.toPyW.showable && decide (d.toPyW.depth ≤ 60) && decide (d.wtW ≤ 16777216)
def reprWD (d : D) : Option D := if reprOk d = true then some (.rp d.toPy) else match d with
  | .tup ds => if reprWOk (.tup ds) = true then some (.rp (D.tup ds).toPyW) else none
  | _ => none
abbrev rReprW (K : PySem.W.Frag) : List V → Hp → VK → Prop := fun xs H Q => rReprU K xs H Q ∨ ∃ v ds, xs = [v] ∧ Rep K H v (.tup ds) ∧ reprWOk (.tup ds) = true ∧ Q (.str (D.tup ds).toPyW.shown) H
theorem cr_reprW {X : Cx} (hg : X.A.guards = some []) (hu : X.A.units + 65 < cLine) : CallR X (.builtin "repr") (rReprW X.K) := by
  refine (cr_repr hg hu).or ?_
  intro pins s σ H xs us Q I r h
  obtain ⟨v, ds, rfl, rp, c, q⟩ := h
  obtain ⟨u, rfl, ru⟩ := vals1 r
  unfold reprWOk at c
  rw [Bool.and_eq_true, Bool.and_eq_true, Bool.and_eq_true, decide_eq_true_eq, decide_eq_true_eq] at c
  obtain ⟨⟨⟨c1, c2⟩, c3⟩, c4⟩ := c
  have len := Nat.le_trans (D.wtW_le _ c1 c2) c4
  obtain ⟨as, rd, ns⟩ := Rep.rdW I rp c1 ru
  cases rp with
  | tup a b =>
    cases ru
    exact repr_of_reads' rd c2 (fun _ => ns) hg (by omega) (fun _ _ e => e) (fun h' u tk hk => ⟨.str _, H, I.kept hk, ⟨_, rfl⟩, q⟩) (line_ok len)
theorem s_reprW {K : PySem.W.Frag} : OpN K .leaf (rReprW K) (one reprWD) := by
  refine s_one fun F H x d z Q sm h e ok => ?_
  unfold reprWD at e
  split at e
  · rename_i c
    exact .inl (s_repr F H [x] [d] z Q sm (.cons h .nil) (by show reprD d = some z; unfold reprD; rw [if_pos c]; exact e) ok)
  · split at e
    · split at e
      · rename_i c
        cases e
        refine .inr ⟨x, _, rfl, h.whole sm rfl, c, ok.here sm (.rp _)⟩
      · cases e
    · cases e
theorem k_reprW {X : Cx} (K : PySem.W.Frag) (hK : X.K = K) (hg : X.A.guards = some []) (hu : X.A.units + 65 < cLine) : CallR X (.builtin "repr") (rReprW K) := hK ▸ cr_reprW hg hu
end VL
/-! V60: x[i] = e in an owned list. -/
namespace VL
open PySem PySem.Spec L2
def mLput (l i : Nat) (m : ME) : MS := fun ρ => (m ρ).bind fun d ρ1 => match own ρ1 l, own ρ1 i with
  | some (.lst ds), some (.int k) => if 0 ≤ k ∧ k < ds.length then .ok .nx (ρ1.set l (some (.lst (ds.set k.toNat d)))) else .no
  | _, _ => .no
section
variable {X : Cx} {ks : List Sh} {W : WX} {rsh : Sh} {fx : Nat} {e : Expr} {te : TE} {m : ME} {x y z : Str} {p1 p2 p3 p4 p5 p6 pt pos : Pos} {kt : Nat}
theorem sv_lput (l i : Nat) (he : EV X ks W e .leaf te m) (hl : ks[l]? = some (.lst .leaf) := by rfl) (hi : ks[i]? = some .leaf := by rfl)
    (hNl : X.N[l]? = some x := by rfl) (hNi : X.N[i]? = some y := by rfl)
    (hvl : Vis X.env.scope x := by first | exact Or.inl rfl | exact Or.inr (Or.inl rfl) | exact Or.inr (Or.inr rfl)) (hdl : (x == ("__debug__" : Str)) = false := by decide) (hcl : (x == ("__classdict__" : Str)) = false := by decide)
    (hvi : Vis X.env.scope y := by first | exact Or.inl rfl | exact Or.inr (Or.inl rfl) | exact Or.inr (Or.inr rfl)) (hdi : (y == ("__debug__" : Str)) = false := by decide) (hci : (y == ("__classdict__" : Str)) = false := by decide)
    (hs : swapsWithSole [.Subscript (.Name x p1) (.Name y p2) p3] e pos.line X.env = pure false := by rfl)
    (hw : swappedStores [.Subscript (.Name x p1) (.Name y p2) p3] e X.env = pure none := by rfl) :
    SV X ks W rsh fx (.Assign [.Subscript (.Name x p1) (.Name y p2) p3] e pos) (tAsg te (gSub (tVar l) (tVar i) rSetL)) (mLput l i m) := by
  refine ⟨ps_asg he.pe (pg_sub (pe_var hNl hvl hdl hcl) (pe_var hNi hvi hdi hci) set_list) hs hw, fun ρ σ F H fp D r hok => ?_⟩
  unfold mLput at hok
  refine he.sd.go r (Ok := OkS (bd X ks W) rsh fx F H fp σ D) hok (fun z => z) (fun _ _ z => z.x) fun d ρ1 v F1 H1 fp1 h1 r1 x1 q1 => ?_
  split at h1
  · rename_i ds k el ei
    split at h1
    · rename_i hb
      obtain ⟨b0, b1⟩ := hb
      obtain ⟨p, vs, s1, nF, eH, rv, step⟩ := r1.ownL hl el
      have si := leaf_int (b := bd X ks W) r1 hi ei
      have len := rv.length
      refine ⟨.ref p, s1, .int k, si, p, vs, k, k.toNat, rfl, rfl, eH, ixN_in b0 (by omega), ?_⟩
      obtain ⟨gp, r2, x2⟩ := step _ _ (Reps.set q1 k.toNat rv)
      exact h1 σ F1 _ gp r2 (x1.trans x2) rfl
    · exact (show False from h1).elim
  · exact (show False from h1).elim
end
end VL
/-! V61: x.extend(t) of an owned list, t a tuple. -/
namespace VL
open PySem PySem.Spec L2
def rExtT : V → List V → Hp → VK → Prop := fun x vs H Q => ∃ l b xs zs, x = .ref l ∧ vs = [.ref b] ∧ H l = some (.lst xs) ∧ TupF H b zs ∧ xs.length + zs.length ≤ sizeLine ∧ Q .non (upd H l (.lst (xs ++ zs)))
theorem mt_extT {X : Cx} : MtM X "list.extend" rExtT := by
  intro pins s σ H x vs v us Q I rx rv h
  obtain ⟨l, b, xs, zs, rfl, rfl, hH, ⟨ws, hB⟩, hz, q⟩ := h
  cases rx
  obtain ⟨u, rfl, ru⟩ := rv.one
  cases ru
  obtain ⟨z, its, n, r, hl, e⟩ := I.lstM hH
  obtain ⟨e2, z2, its2, r2, ob, e3, hc, m, hd⟩ := I.hok b _ hB
  rw [e2] at e3
  cases e3
  have e4 : ws.toArray = its2.toArray := by
    have : (Data.seq ws.toArray 0) = Data.seq its2.toArray m := hd
    cases this; rfl
  have e5 : ws = its2 := by have := congrArg Array.toList e4; simpa using this
  subst e5
  have hl2 : ws.length = zs.length := r2.length.symm
  have hsz : its.toArray.size + ws.toArray.size ≤ sizeLine := by rw [List.size_toArray, List.size_toArray]; omega
  have hlong : ¬ (!its.toArray.isEmpty && Builtin.List.listTooLong (its.toArray.size + ws.toArray.size)) = true := by
    rw [notLongL hsz, Bool.and_false]
    exact Bool.false_ne_true
  refine call_meets F.slot_list_extend ⟨_, e, rfl⟩ F.entry_list_extend (F.args_list_extend_2 _ _)
    (AutoSeq1.list_extend_list_tuple_0 l its.toArray n b ws.toArray 0 hlong (by rw [List.size_toArray]; omega) (by omega)) ⟨e, e2, ?_⟩
  refine ⟨.non, _, I.lset (its' := its ++ ws) hH e (by simp) (r.append r2) ?_, rfl, q⟩
  rw [List.length_append]
  omega
def extTD : List D → List D → Option (D × List D)
  | ds, [.tup es] => if ds.length + es.length ≤ 16777216 then some (.non, ds ++ es) else none
  | _, _ => none
theorem m_extT {K : PySem.W.Frag} : MtL K rExtT extTD := by
  intro F H p vs ds xs es z ds' Q sm nF eH q1 q2 hf k
  unfold extTD at hf
  split at hf
  · cases q2 with
    | cons h t =>
      cases t
      split at hf
      · rename_i c
        cases hf
        cases h with
        | tup e r => exact ⟨p, _, vs, _, rfl, rfl, eH, e.mono sm.sm, by rw [q1.length, r.length, sizeLine_eq]; exact c, k .non _ (q1.append r) .non⟩
      · cases hf
  · cases hf
end VL
/-! V62: count of texts in a tuple. -/
namespace VL
open PySem PySem.Spec L2
def cntS (ds : List D) : D → Option D
  | .str z => (asStrs ds).bind fun ys => some (.int (ys.count z : Nat))
  | _ => none
theorem cntSE {ds : List D} {x z : D} (h : cntS ds x = some z) : ∃ s ys, x = .str s ∧ asStrs ds = some ys ∧ z = .int (ys.count s : Nat) := by
  unfold cntS at h
  split at h
  · rename_i s
    cases e : asStrs ds with
    | none => rw [e] at h; cases h
    | some ys =>
      rw [e, Option.bind_some] at h
      exact ⟨s, ys, rfl, rfl, (Option.some.inj h).symm⟩
  · cases h
def mCntT (m mx : ME) : ME := fun ρ => (m ρ).bind fun d ρ1 => match d with
  | .tup ds => (mx ρ1).bind fun x ρ2 => R.of (cntS ds x) ρ2
  | _ => .no
section
variable {X : Cx} {ks : List Sh} {W : WX} {o e : Expr} {to te : TE} {m mx : ME} {apos cpos : Pos}
theorem ev_cntT (K : PySem.W.Frag) (hK : X.K = K) (ho : EV X ks W o .leaf to m) (he : EV X ks W e .leaf te mx) (hbase : attributeBase o "count" X.env (eval o X.env) = eval o X.env := by rfl)
    (hfew : ((backTo cpos (starEach [e] X.env)).all (fun x => !x.1) && (backToKw cpos (keywordEach [] X.env)).all (fun x => x.1.isSome)
      && decide (([e] : List Expr).length + ([] : List Keyword).length + (if ([] : List Keyword).isEmpty then 0 else 1) < 30)) = true := by rfl)
    (hline : (apos.endLine == cpos.line) = true := by rfl) (hs : starEach [e] X.env = (false, eval e X.env) :: starEach [] X.env := by rfl) (hpl : (backTo cpos (starEach [] X.env)).any (·.1) = false := by rfl) :
    EV X ks W (.Call (.Attribute o "count" apos) [e] [] cpos) .leaf (tTM (rCntT K) to (tCons te tNil)) (mCntT m mx) := by
  subst hK
  refine ⟨pe_tm PySem.F.slot_tuple_count PySem.F.type_tuple_count mt_cntT ho.pe (pa_cons he.pe pa_nil hs) hbase hfew hline hs hpl, fun ρ σ F H fp Q r0 hok => ?_⟩
  unfold mCntT at hok
  refine ho.sd.go r0 (Ok := OkE (bd X ks W) .leaf F H fp σ Q) hok (fun z => z) (fun _ _ z => z) fun d ρ1 v F1 H1 fp1 h1 r1 x1 p1 => ?_
  split at h1
  · rename_i ds
    cases p1 with
    | tup q1 q2 =>
      refine ⟨⟨_, _, rfl, q1.mono r1.sub.sm⟩, ?_⟩
      refine he.sd.go r1 (Ok := OkE (bd X ks W) .leaf F1 H1 fp1 σ Q) (h1.ext x1) (fun z => z) (fun _ _ z => z) fun x ρ2 u F2 H2 fp2 h2 r2 x2 p2 => ?_
      cases e1 : cntS ds x with
      | none => rw [e1] at h2; exact (show False from h2).elim
      | some z =>
        rw [e1] at h2
        obtain ⟨s, ys, rfl, ea, rfl⟩ := cntSE e1
        obtain ⟨ev, _⟩ := reps_asStrs q2 ea
        subst ev
        have eu : u = .str s := by cases p2; rfl
        subst eu
        exact ⟨_, ys, s, rfl, rfl, ((q1.mono (r1.same x2)).mono r2.sub.sm).sq X.K, ((h2.ext x2).done r2).here r2.sub (.int _)⟩
  · exact (show False from h1).elim
end
end VL
/-! V63: x.split(y), texts cut. -/
namespace VL
open PySem PySem.Spec L2
def splitD : D → D → Option D
  | .str a, .str b => if (b.length == 0) = false ∧ a.length + 2 ≤ sizeLine ∧ (Txt.split a b).all asc = true then some (.lst ((Txt.split a b).map .str)) else none
  | _, _ => none
theorem s_split {K : PySem.W.Frag} : Op2 K (.lst .leaf) (fun x y H Q => ∃ a b, x = .str a ∧ [y] = [V.str b] ∧ (b.length == 0) = false ∧ a.length + 2 ≤ sizeLine ∧ rNewStrs (Txt.split a b) H Q) splitD := by
  intro F H x y d e z Q sm h k q ok
  unfold splitD at q
  split at q
  · rename_i a b
    split at q
    · rename_i hc
      obtain ⟨h1, h2, h3⟩ := hc
      cases q
      rw [h.strE.1, k.strE.1]
      refine ⟨a, b, rfl, rfl, h1, h2, fun l nl => ok.newL sm (reps_mk fun z m => (List.all_eq_true.mp h3) z m) nl⟩
    · cases q
  · cases q
theorem hq_split : ∀ d e z, splitD d e = some z → ∃ x, d = .str x := fun d e z h => by
  cases d with
  | str x => exact ⟨x, rfl⟩
  | _ => cases h
end VL
namespace VL
open PySem PySem.Spec L2
abbrev P : Program := PySem.Challenge.pw_halforder_k05_lines_there_and_back
def topS (i : Nat) : Stmt := P.main.body.getD i (.Pass ⟨0, 0, 0, 0⟩)
structure Gs (mg : Str → Option Value) : Prop where
  b_all : mg "all" = none
  b_int : mg "int" = none
  b_isinstance : mg "isinstance" = none
  b_len : mg "len" = none
  b_list : mg "list" = none
  b_range : mg "range" = none
  b_repr : mg "repr" = none
  b_set : mg "set" = none
  b_str : mg "str" = none
  b_tuple : mg "tuple" = none
  c_LETTERS : ∃ tk, mg "LETTERS" = some (.str "abcdefghijklmnopqrstuvwxyz" tk)
  c_LONGEST : ∃ tk, mg "LONGEST" = some (.int 8 tk)
  c_MOST_NAMES : ∃ tk, mg "MOST_NAMES" = some (.int 10 tk)
  c_MOST_SAYINGS : ∃ tk, mg "MOST_SAYINGS" = some (.int 60 tk)
theorem bt_all : bootBuiltins "all" = some (.builtin "all") := by decide +kernel
theorem bt_int : bootBuiltins "int" = some (.type "int") := by decide +kernel
theorem bt_isinstance : bootBuiltins "isinstance" = some (.builtin "isinstance") := by decide +kernel
theorem bt_len : bootBuiltins "len" = some (.builtin "len") := by decide +kernel
theorem bt_list : bootBuiltins "list" = some (.type "list") := by decide +kernel
theorem bt_range : bootBuiltins "range" = some (.type "range") := by decide +kernel
theorem bt_repr : bootBuiltins "repr" = some (.builtin "repr") := by decide +kernel
theorem bt_set : bootBuiltins "set" = some (.type "set") := by decide +kernel
theorem bt_str : bootBuiltins "str" = some (.type "str") := by decide +kernel
theorem bt_tuple : bootBuiltins "tuple" = some (.type "tuple") := by decide +kernel
section
variable {w : World} {K : PySem.W.Frag} {mg : Str → Option Value} {base : Heap}
structure Xs (w : World) (K : PySem.W.Frag) (mg : Str → Option Value) (base : Heap) (A_HalfError A_NoText : Addr) : Prop where
  g_HalfError : mg "HalfError" = some (.ref A_HalfError)
  g_NoText : mg "NoText" = some (.ref A_NoText)
  z_NoText : ExK P w K mg base "NoText" ["row"] A_NoText
  x_NoText : XfC K A_NoText
  e_NoText : ExcC K A_NoText
  n_NoText_row : PySem.W.findIn K (.ref A_NoText) "row" = some none
abbrev s_init_NoText : Stmt := clsStm (topS 4) 0
theorem sc_init_NoText : FnScope ["self", "row"] ["self", "row"] (defScope s_init_NoText) := ⟨rfl, rfl, rfl, by decide +kernel, rfl, by decide +kernel, by decide +kernel⟩
theorem in_NoText {B C fI : Addr} {fd : FuncData} (G : L2.Fun K "__init__" "NoText.__init__" s_init_NoText fI fd) (gB : mg "HalfError" = some (.ref B)) (rd : ClX.CRead K B (.type "type")) (vV : PySem.W.findCls K (.ref B) (.type "type") "__init__" = some (.val (.builtin "ValueError.__init__"))) (T : OexC K C) (no_row : PySem.W.findIn K (.ref C) "row" = some none) : FnOk P w K mg base CX0 1 fI fd ["self", "row"] (spI K C ["row"]) := by
  refine G.ok (k := 0) sc_init_NoText (fun vs H Q E h => ?_) fun cdv A outer s H vs Q E hr hsp => ?_
  · obtain ⟨a, ws, rfl, hl, _⟩ := h
    rw [List.length_cons, hl]; rfl
  · exact ⟨_, pss_cons (ps_expr (pe_cinit rfl gB rd vV (pa_cons (pv 0) (pa_cons (pv 1) pa_nil)))) (pss_one (ps_ost (pv 0) (pv 1))), init_end1 T no_row hsp rfl⟩
/-! tale_lines -/
abbrev s_tale_lines : Stmt := topS 1
theorem sc_tale_lines : FnScope ["tale", "names", "sayings", "lines", "one", "other"] ["tale"] (defScope s_tale_lines) := ⟨rfl, rfl, rfl, by decide +kernel, rfl, by decide +kernel, by decide +kernel⟩
def m_tale_lines : MS :=
  (mSeq (mAsg (kTup' 2 (kCons (kName 1) (kCons (kName 2) kNil))) (mVar 0))
  (mSeq (mSet 3 (mLst (mCons (mM1 joinD (mC (.str " ")) (mV (mOp2 addD (mV (mTup (mCons (mC (.str "names")) mNil))) (mV (mVar 1))))) mNil)))
  (mSeq (mLoop (kTup' 2 (kCons (kName 4) (kCons (kName 5) kNil))) (mDrop (mMtL 3 appendD (mCons (mM1 joinD (mC (.str " ")) (mV (mLst (mCons (mC (.str "ahead")) (mCons (mVar 4) (mCons (mVar 5) mNil)))))) mNil))) (mTs (mVar 2)))
  (mRet (mMove 3)))))
def g_tale_lines : List D → R D := fun ds => (runF 6 0 m_tale_lines ds).noEx
theorem fn_tale_lines {f : Addr} {fd : FuncData} (G : L2.Fun K "tale_lines" "tale_lines" s_tale_lines f fd) (gs : Gs mg) : FnG P w K mg base CX0 1 f fd ["tale"] (spV K mg 1 (leaves 1) 0 (.lst .leaf) g_tale_lines) := by
  refine Fun.okG (k := 0) (n := 1) (psh := (leaves 1)) (lsh := [.leaf, .leaf, (.lst .leaf), .leaf, .leaf]) (fx := 0) (rsh := (.lst .leaf)) (m := m_tale_lines) G sc_tale_lines rfl rfl rfl (by decide) (.inr (nnx_seq (nnx_seq (nnx_seq (nnx_ret _))))) fun X h1 h2 h3 h4 h5 h6 h7 h8 h9 henv hr hgd => ?_
  obtain ⟨xP, xw, xK, xmg, xb, xA, xN, xs, xH, xe, xo, xst, xex, xfn, xc, xpn, xx⟩ := X
  obtain ⟨xL, xf, xcd, henv⟩ := henv
  dsimp only at h1 h2 h3 h4 h5 h6 h7 h8 h9 henv hr hgd
  subst h1 h2 h3 h4 h5 h6 h7 h8 h9 henv
  exact ⟨_, (svs_cons (sv_asg (ev_var 0) (kv_gtup xK rfl rfl (n := 2) (gvs_cons (tk_rel _) (gv_name sc_tale_lines.nd (i := 1) rfl (by first | exact .inl rfl | exact .inr rfl) rfl (fun σ x => tk_set (by decide) σ x)) (gvs_cons (tk_rel _) (gv_name sc_tale_lines.nd (i := 2) rfl (by first | exact .inl rfl | exact .inr rfl) rfl (fun σ x => tk_set (by decide) σ x)) (gvs_nil (tk_rel _))))))
    (svs_cons (sv_set (i := 3) rfl (by decide) sc_tale_lines.nd rfl (by first | exact .inl rfl | exact .inr rfl) (ev_lst (ea_cons (ev_m1 PySem.F.slot_str_join PySem.F.type_str_join (k_join xK rfl) (s_join (K := xK)) hq_join ev_str (eo_of (ev_op (k_add xK rfl) (s_add (K := xK)) (eo_of (ev_tup (ea_cons ev_str ea_nil))) (eo_of (ev_var 1))))) ea_nil)))
    (svs_cons (sv_for PassesOwn.never rfl (kv_tup xK rfl (ev_var 2)) (kv_gtup xK rfl rfl (n := 2) (gvs_cons (tk_rel _) (gv_name sc_tale_lines.nd (i := 4) rfl (by first | exact .inl rfl | exact .inr rfl) rfl (fun σ x => tk_set (by decide) σ x)) (gvs_cons (tk_rel _) (gv_name sc_tale_lines.nd (i := 5) rfl (by first | exact .inl rfl | exact .inr rfl) rfl (fun σ x => tk_set (by decide) σ x)) (gvs_nil (tk_rel _))))) (svs_one (sv_expr (ev_mtL 3 PySem.F.slot_list_append PySem.F.type_list_append mt_append m_append (ea_cons (ev_m1 PySem.F.slot_str_join PySem.F.type_str_join (k_join xK rfl) (s_join (K := xK)) hq_join ev_str (eo_of (ev_frz (ev_lst (ea_cons ev_str (ea_cons (ev_var 4) (ea_cons (ev_var 5) ea_nil))))))) ea_nil)))))
    (svs_one (sv_ret (ev_move 3))))))⟩

/-! is_name -/
abbrev s_is_name : Stmt := topS 8
theorem sc_is_name : FnScope ["thing", "sign"] ["thing"] (defScope s_is_name) := ⟨rfl, rfl, rfl, by decide +kernel, rfl, by decide +kernel, by decide +kernel⟩
def m_is_name : MS :=
  (mSeq (mIfS (mOr (mNot (mTest (mOpN (two isiD) (mOCons (mV (mVar 0)) (mOCons (mV (mC (.ty "str"))) mONil))))) (mNot (mTest (mChain leD leD (mC (.int 1)) (mOpN (one lenD) (mOCons (mV (mVar 0)) mONil)) (mC (.int 8)))))) (mRet (mC (.bl false))) mNx)
  (mRet (mOpN (one allD) (mOCons (mV (mLc (mSs (mVar 0)) (kName 1) mYes (mOp2 inD (mV (mVar 1)) (mV (mC (.str "abcdefghijklmnopqrstuvwxyz")))) [1])) mONil))))
def g_is_name : List D → R D := fun ds => (runF 2 0 m_is_name ds).noEx
theorem fn_is_name {f : Addr} {fd : FuncData} (G : L2.Fun K "is_name" "is_name" s_is_name f fd) (gs : Gs mg) : FnG P w K mg base CX0 1 f fd ["thing"] (spV K mg 1 (leaves 1) 0 .leaf g_is_name) := by
  refine Fun.okG (k := 0) (n := 1) (psh := (leaves 1)) (lsh := [.leaf]) (fx := 0) (rsh := .leaf) (m := m_is_name) G sc_is_name rfl rfl rfl (by decide) (.inl rfl) fun X h1 h2 h3 h4 h5 h6 h7 h8 h9 henv hr hgd => ?_
  obtain ⟨xP, xw, xK, xmg, xb, xA, xN, xs, xH, xe, xo, xst, xex, xfn, xc, xpn, xx⟩ := X
  obtain ⟨xL, xf, xcd, henv⟩ := henv
  dsimp only at h1 h2 h3 h4 h5 h6 h7 h8 h9 henv hr hgd
  subst h1 h2 h3 h4 h5 h6 h7 h8 h9 henv
  obtain ⟨tk_LETTERS, g_LETTERS⟩ := gs.c_LETTERS
  obtain ⟨tk_LONGEST, g_LONGEST⟩ := gs.c_LONGEST
  exact ⟨_, (svs_cons (sv_if (et_w (ew_or (et_not (et_val (ev_callB (k_isi xK rfl) (s_isi (K := xK)) (eos_cons (eo_of (ev_var 0)) (eos_cons (eo_of (ev_ty gs.b_str bt_str)) eos_nil)) gs.b_isinstance bt_isinstance))) (ew_or1 (et_not (et_chain op_le s_b op_le s_b ev_int (ev_callB (k_len xK rfl) (s_len (K := xK)) (eos_cons (eo_of (ev_var 0)) eos_nil) gs.b_len bt_len) (ev_globI g_LONGEST)))))) (svs_one (sv_ret ev_bl)) svs_nil)
    (svs_one (sv_ret (ev_callB (k_all xK rfl rfl) (s_all (K := xK)) (eos_cons (eo_of (ev_frz (ev_lc (own := [("sign", 1)]) rfl sc_is_name.nd (iv_str (ev_var 0)) (blkOk_by (N := ["thing", "sign"]) (sc := defScope s_is_name) (own := [("sign", 1)]) (by decide +kernel)) (by decide) (hk1 rfl) (fun _ _ _ _ _ => (gv_name sc_is_name.nd (i := 1) rfl (by first | exact .inl rfl | exact .inr rfl) rfl (fun σ x => tw_set (by decide) σ x))) (fun _ _ _ _ _ => ets_nil) (fun _ _ _ _ _ => (ev_cmp (k_in xK rfl (hu64 hr)) (s_in (K := xK)) (eo_of (ev_var 1)) (eo_of (ev_globS g_LETTERS)) (by first | exact nomark _ | rfl)))))) eos_nil) gs.b_all bt_all))))⟩

/-! are_names -/
abbrev s_are_names : Stmt := topS 12
theorem sc_are_names : FnScope ["thing", "one"] ["thing"] (defScope s_are_names) := ⟨rfl, rfl, rfl, by decide +kernel, rfl, by decide +kernel, by decide +kernel⟩
def m_are_names : MS :=
  (mSeq (mIfS (mOr (mNot (mTest (mOpN (two isiD) (mOCons (mV (mVar 0)) (mOCons (mV (mC (.ty "tuple"))) mONil))))) (mTest (mOp2 gtD (mV (mOpN (one lenD) (mOCons (mV (mVar 0)) mONil))) (mV (mC (.int 10)))))) (mRet (mC (.bl false))) mNx)
  (mRet (mAndV (mOpN (one allD) (mOCons (mV (mLc (mTs (mVar 0)) (kName 1) mYes (mCall0 1 g_is_name (mCons (mVar 1) mNil)) [1])) mONil)) (mOp2 eqD (mV (mOpN (one lsetD) (mOCons (mV (mVar 0)) mONil))) (mV (mOpN (one lenD) (mOCons (mV (mVar 0)) mONil)))))))
def g_are_names : List D → R D := fun ds => (runF 2 0 m_are_names ds).noEx
theorem fn_are_names {f : Addr} {fd : FuncData} (G : L2.Fun K "are_names" "are_names" s_are_names f fd) (gs : Gs mg) (c_is_name : Clp P w K mg base CX0 1 "is_name" 1 (leaves 1) 0 .leaf g_is_name) : FnG P w K mg base CX0 2 f fd ["thing"] (spV K mg 1 (leaves 1) 0 .leaf g_are_names) := by
  refine Fun.okG (k := 1) (n := 1) (psh := (leaves 1)) (lsh := [.leaf]) (fx := 0) (rsh := .leaf) (m := m_are_names) G sc_are_names rfl rfl rfl (by decide) (.inl rfl) fun X h1 h2 h3 h4 h5 h6 h7 h8 h9 henv hr hgd => ?_
  obtain ⟨xP, xw, xK, xmg, xb, xA, xN, xs, xH, xe, xo, xst, xex, xfn, xc, xpn, xx⟩ := X
  obtain ⟨xL, xf, xcd, henv⟩ := henv
  dsimp only at h1 h2 h3 h4 h5 h6 h7 h8 h9 henv hr hgd
  subst h1 h2 h3 h4 h5 h6 h7 h8 h9 henv
  obtain ⟨tk_MOST_NAMES, g_MOST_NAMES⟩ := gs.c_MOST_NAMES
  exact ⟨_, (svs_cons (sv_if (et_w (ew_or (et_not (et_val (ev_callB (k_isi xK rfl) (s_isi (K := xK)) (eos_cons (eo_of (ev_var 0)) (eos_cons (eo_of (ev_ty gs.b_tuple bt_tuple)) eos_nil)) gs.b_isinstance bt_isinstance))) (ew_or1 (et_cmp op_gt s_b (eo_of (ev_callB (k_len xK rfl) (s_len (K := xK)) (eos_cons (eo_of (ev_var 0)) eos_nil) gs.b_len bt_len)) (eo_of (ev_globI g_MOST_NAMES)) (by first | exact nomark _ | rfl))))) (svs_one (sv_ret ev_bl)) svs_nil)
    (svs_one (sv_ret (ev_and (ev_callB (k_all xK rfl rfl) (s_all (K := xK)) (eos_cons (eo_of (ev_frz (ev_lc (own := [("one", 1)]) rfl sc_are_names.nd (kv_tup xK rfl (ev_var 0)) (blkOk_by (N := ["thing", "one"]) (sc := defScope s_are_names) (own := [("one", 1)]) (by decide +kernel)) (by decide) (hk1 rfl) (fun _ _ _ _ _ => (gv_name sc_are_names.nd (i := 1) rfl (by first | exact .inl rfl | exact .inr rfl) rfl (fun σ x => tw_set (by decide) σ x))) (fun _ _ _ _ _ => ets_nil) (fun _ _ _ _ _ => (kv_call0 xK rfl xmg rfl (c_is_name.cl (by decide) rfl rfl rfl rfl rfl) px0 hr hgd (ea_cons (ev_var 1) ea_nil)))))) eos_nil) gs.b_all bt_all) (ev_one (ev_cmp (k_eq xK rfl (hu65 hr)) (s_eq (K := xK)) (eo_of (ev_lset xK rfl rfl (eos_cons (eo_of (ev_var 0)) eos_nil) gs.b_len gs.b_set)) (eo_of (ev_callB (k_len xK rfl) (s_len (K := xK)) (eos_cons (eo_of (ev_var 0)) eos_nil) gs.b_len bt_len)) (by first | exact nomark _ | rfl)))))))⟩

/-! is_saying -/
abbrev s_is_saying : Stmt := topS 13
theorem sc_is_saying : FnScope ["names", "thing", "one"] ["names", "thing"] (defScope s_is_saying) := ⟨rfl, rfl, rfl, by decide +kernel, rfl, by decide +kernel, by decide +kernel⟩
def m_is_saying : MS :=
  (mSeq (mIfS (mOr (mNot (mTest (mOpN (two isiD) (mOCons (mV (mVar 1)) (mOCons (mV (mC (.ty "tuple"))) mONil))))) (mTest (mOp2 neD (mV (mOpN (one lenD) (mOCons (mV (mVar 1)) mONil))) (mV (mC (.int 2)))))) (mRet (mC (.bl false))) mNx)
  (mRet (mOpN (one allD) (mOCons (mV (mLc (mTs (mVar 1)) (kName 2) mYes (mAndV (mCall0 1 g_is_name (mCons (mVar 2) mNil)) (mOp2 inD (mV (mVar 2)) (mV (mVar 0)))) [2])) mONil))))
def g_is_saying : List D → R D := fun ds => (runF 3 0 m_is_saying ds).noEx
theorem fn_is_saying {f : Addr} {fd : FuncData} (G : L2.Fun K "is_saying" "is_saying" s_is_saying f fd) (gs : Gs mg) (c_is_name : Clp P w K mg base CX0 1 "is_name" 1 (leaves 1) 0 .leaf g_is_name) : FnG P w K mg base CX0 2 f fd ["names", "thing"] (spV K mg 2 (leaves 2) 0 .leaf g_is_saying) := by
  refine Fun.okG (k := 1) (n := 2) (psh := (leaves 2)) (lsh := [.leaf]) (fx := 0) (rsh := .leaf) (m := m_is_saying) G sc_is_saying rfl rfl rfl (by decide) (.inl rfl) fun X h1 h2 h3 h4 h5 h6 h7 h8 h9 henv hr hgd => ?_
  obtain ⟨xP, xw, xK, xmg, xb, xA, xN, xs, xH, xe, xo, xst, xex, xfn, xc, xpn, xx⟩ := X
  obtain ⟨xL, xf, xcd, henv⟩ := henv
  dsimp only at h1 h2 h3 h4 h5 h6 h7 h8 h9 henv hr hgd
  subst h1 h2 h3 h4 h5 h6 h7 h8 h9 henv
  exact ⟨_, (svs_cons (sv_if (et_w (ew_or (et_not (et_val (ev_callB (k_isi xK rfl) (s_isi (K := xK)) (eos_cons (eo_of (ev_var 1)) (eos_cons (eo_of (ev_ty gs.b_tuple bt_tuple)) eos_nil)) gs.b_isinstance bt_isinstance))) (ew_or1 (et_cmp (k_ne xK rfl (hu65 hr)) (s_ne (K := xK)) (eo_of (ev_callB (k_len xK rfl) (s_len (K := xK)) (eos_cons (eo_of (ev_var 1)) eos_nil) gs.b_len bt_len)) (eo_of ev_int) (by first | exact nomark _ | rfl))))) (svs_one (sv_ret ev_bl)) svs_nil)
    (svs_one (sv_ret (ev_callB (k_all xK rfl rfl) (s_all (K := xK)) (eos_cons (eo_of (ev_frz (ev_lc (own := [("one", 2)]) rfl sc_is_saying.nd (kv_tup xK rfl (ev_var 1)) (blkOk_by (N := ["names", "thing", "one"]) (sc := defScope s_is_saying) (own := [("one", 2)]) (by decide +kernel)) (by decide) (hk1 rfl) (fun _ _ _ _ _ => (gv_name sc_is_saying.nd (i := 2) rfl (by first | exact .inl rfl | exact .inr rfl) rfl (fun σ x => tw_set (by decide) σ x))) (fun _ _ _ _ _ => ets_nil) (fun _ _ _ _ _ => (ev_and (kv_call0 xK rfl xmg rfl (c_is_name.cl (by decide) rfl rfl rfl rfl rfl) px0 hr hgd (ea_cons (ev_var 2) ea_nil)) (ev_one (ev_cmp (k_in xK rfl (hu64 hr)) (s_in (K := xK)) (eo_of (ev_var 2)) (eo_of (ev_var 0)) (by first | exact nomark _ | rfl)))))))) eos_nil) gs.b_all bt_all))))⟩

/-! read_tale -/
abbrev s_read_tale : Stmt := topS 15
theorem sc_read_tale : FnScope ["lines", "words", "names", "sayings", "k", "saying"] ["lines"] (defScope s_read_tale) := ⟨rfl, rfl, rfl, by decide +kernel, rfl, by decide +kernel, by decide +kernel⟩
def m_read_tale : MS :=
  (mSeq (mIfS (mTest (mOp2 eqD (mV (mOpN (one lenD) (mOCons (mV (mVar 0)) mONil))) (mV (mC (.int 0))))) (mRaise "NoText" ["row"] (mCons (mC (.int 0)) mNil)) mNx)
  (mSeq (mSet 1 (mM1 splitD (mOp2 ixD (mV (mVar 0)) (mV (mC (.int 0)))) (mV (mC (.str " ")))))
  (mSeq (mSet 2 (mOp1 tupleD (mV (mSl cutD (mV (mVar 1)) (mPart (mC (.int 1))) mNoPart))))
  (mSeq (mIfS (mOr (mTest (mOp2 neD (mV (mOp2 ixD (mV (mVar 1)) (mV (mC (.int 0))))) (mV (mC (.str "names"))))) (mNot (mTest (mCall0 1 g_are_names (mCons (mVar 2) mNil))))) (mRaise "NoText" ["row"] (mCons (mC (.int 0)) mNil)) mNx)
  (mSeq (mSet 3 (mLst mNil))
  (mSeq (mLoop (kName 4) (mSeq (mSet 1 (mM1 splitD (mOp2 ixD (mV (mVar 0)) (mV (mVar 4))) (mV (mC (.str " ")))))
  (mSeq (mSet 5 (mOp1 tupleD (mV (mSl cutD (mV (mVar 1)) (mPart (mC (.int 1))) mNoPart))))
  (mSeq (mIfS (mOr (mTest (mOp2 neD (mV (mOp2 ixD (mV (mVar 1)) (mV (mC (.int 0))))) (mV (mC (.str "ahead"))))) (mOr (mNot (mTest (mCall0 2 g_is_saying (mCons (mVar 2) (mCons (mVar 5) mNil))))) (mTest (mOp2 eqD (mV (mOpN (one lenD) (mOCons (mS 3) mONil))) (mV (mC (.int 60))))))) (mRaise "NoText" ["row"] (mCons (mVar 4) mNil)) mNx)
  (mDrop (mMtL 3 appendD (mCons (mVar 5) mNil)))))) (mR2 (mCons (mC (.int 1)) (mCons (mOpN (one lenD) (mOCons (mV (mVar 0)) mONil)) mNil))))
  (mRet (mTup (mCons (mVar 2) (mCons (mOp1 tupleD (mS 3)) mNil))))))))))
def gX_read_tale : List D → R D := fun ds => runF 6 0 m_read_tale ds
def g_read_tale : List D → R D := fun ds => (gX_read_tale ds).noEx
theorem fn_read_tale {f : Addr} {fd : FuncData} (G : L2.Fun K "read_tale" "read_tale" s_read_tale f fd) (gs : Gs mg) {A_HalfError A_NoText : Addr} (zs : Xs w K mg base A_HalfError A_NoText) (c_are_names : Clp P w K mg base CX0 2 "are_names" 1 (leaves 1) 0 .leaf g_are_names) (c_is_saying : Clp P w K mg base CX0 2 "is_saying" 2 (leaves 2) 0 .leaf g_is_saying) : FnG P w K mg base (L2.CX P w) 3 f fd ["lines"] (spV K mg 1 (leaves 1) 0 .leaf gX_read_tale) := by
  refine Fun.okXGT (k := 2) (n := 1) (psh := (leaves 1)) (lsh := [.leaf, .leaf, (.lst .leaf), .leaf, .leaf]) (fx := 0) (rsh := .leaf) (m := m_read_tale) G sc_read_tale rfl rfl rfl (by decide) (.inl rfl) fun X W h1 h2 h3 h4 h5 h6 h7 h8 henv hr hgd hstk htk hps => ?_
  obtain ⟨xP, xw, xK, xmg, xb, xA, xN, xs, xH, xe, xo, xst, xex, xfn, xc, xpn, xx⟩ := X
  obtain ⟨xL, xf, xcd, henv⟩ := henv
  dsimp only at h1 h2 h3 h4 h5 h6 h7 h8 henv hr hgd hstk
  subst h1 h2 h3 h4 h5 h6 h7 h8 henv
  obtain ⟨tk_MOST_SAYINGS, g_MOST_SAYINGS⟩ := gs.c_MOST_SAYINGS
  exact ⟨_, (svs_cons (sv_if (et_cmp (k_eq xK rfl (hu65 hr)) (s_eq (K := xK)) (eo_of (ev_callB (k_len xK rfl) (s_len (K := xK)) (eos_cons (eo_of (ev_var 0)) eos_nil) gs.b_len bt_len)) (eo_of ev_int) (by first | exact nomark _ | rfl)) (svs_one (sv_raise zs.z_NoText rfl htk (hr.mono (by decide)) (by decide) (ea_cons ev_int ea_nil))) svs_nil)
    (svs_cons (sv_set (i := 1) rfl (by decide) sc_read_tale.nd rfl (by first | exact .inl rfl | exact .inr rfl) (ev_frz (ev_m1 PySem.F.slot_str_split PySem.F.type_str_split mt_split (s_split (K := xK)) hq_split (ev_ix (k_ix xK rfl (hu1 hr)) (s_ix (K := xK)) (eo_of (ev_var 0)) (eo_of ev_int)) (eo_of ev_str))))
    (svs_cons (sv_set (i := 2) rfl (by decide) sc_read_tale.nd rfl (by first | exact .inl rfl | exact .inr rfl) (kv_tupleOf xK rfl (eo_of (ev_slice (k_sl xK rfl) (s_sl (K := xK)) (eo_of (ev_var 1)) (ept_some ev_int) ept_none)) gs.b_tuple))
    (svs_cons (sv_if (et_w (ew_or (et_cmp (k_ne xK rfl (hu65 hr)) (s_ne (K := xK)) (eo_of (ev_ix (k_ix xK rfl (hu1 hr)) (s_ix (K := xK)) (eo_of (ev_var 1)) (eo_of ev_int))) (eo_of ev_str) (by first | exact nomark _ | rfl)) (ew_or1 (et_not (et_val (kv_call0 xK rfl xmg rfl (c_are_names.cl (by decide) rfl rfl rfl rfl rfl) px0 hr hgd (ea_cons (ev_var 2) ea_nil))))))) (svs_one (sv_raise zs.z_NoText rfl htk (hr.mono (by decide)) (by decide) (ea_cons ev_int ea_nil))) svs_nil)
    (svs_cons (sv_set (i := 3) rfl (by decide) sc_read_tale.nd rfl (by first | exact .inl rfl | exact .inr rfl) (ev_lst ea_nil))
    (svs_cons (sv_for hps rfl (iv_rng2 (ea_cons ev_int (ea_cons (ev_callB (k_len xK rfl) (s_len (K := xK)) (eos_cons (eo_of (ev_var 0)) eos_nil) gs.b_len bt_len) ea_nil)) gs.b_range) (gv_name sc_read_tale.nd (i := 4) rfl (by first | exact .inl rfl | exact .inr rfl) rfl (fun σ x => tk_set (by decide) σ x)) (svs_cons (sv_set (i := 1) rfl (by decide) sc_read_tale.nd rfl (by first | exact .inl rfl | exact .inr rfl) (ev_frz (ev_m1 PySem.F.slot_str_split PySem.F.type_str_split mt_split (s_split (K := xK)) hq_split (ev_ix (k_ix xK rfl (hu1 hr)) (s_ix (K := xK)) (eo_of (ev_var 0)) (eo_of (ev_var 4))) (eo_of ev_str))))
    (svs_cons (sv_set (i := 5) rfl (by decide) sc_read_tale.nd rfl (by first | exact .inl rfl | exact .inr rfl) (kv_tupleOf xK rfl (eo_of (ev_slice (k_sl xK rfl) (s_sl (K := xK)) (eo_of (ev_var 1)) (ept_some ev_int) ept_none)) gs.b_tuple))
    (svs_cons (sv_if (et_w (ew_or (et_cmp (k_ne xK rfl (hu65 hr)) (s_ne (K := xK)) (eo_of (ev_ix (k_ix xK rfl (hu1 hr)) (s_ix (K := xK)) (eo_of (ev_var 1)) (eo_of ev_int))) (eo_of ev_str) (by first | exact nomark _ | rfl)) (ew_or (et_not (et_val (kv_call0 xK rfl xmg rfl (c_is_saying.cl (by decide) rfl rfl rfl rfl rfl) px0 hr hgd (ea_cons (ev_var 2) (ea_cons (ev_var 5) ea_nil))))) (ew_or1 (et_cmp (k_eq xK rfl (hu65 hr)) (s_eq (K := xK)) (eo_of (ev_callB (k_len xK rfl) (s_len (K := xK)) (eos_cons (eo_own 3) eos_nil) gs.b_len bt_len)) (eo_of (ev_globI g_MOST_SAYINGS)) (by first | exact nomark _ | rfl)))))) (svs_one (sv_raise zs.z_NoText rfl htk (hr.mono (by decide)) (by decide) (ea_cons (ev_var 4) ea_nil))) svs_nil)
    (svs_one (sv_expr (ev_mtL 3 PySem.F.slot_list_append PySem.F.type_list_append mt_append m_append (ea_cons (ev_var 5) ea_nil))))))))
    (svs_one (sv_ret (ev_tup (ea_cons (ev_var 2) (ea_cons (kv_tupleOf xK rfl (eo_own 3) gs.b_tuple) ea_nil)))))))))))⟩

/-! _law_feed -/
abbrev s__law_feed : Stmt := topS 17
theorem sc__law_feed : FnScope ["_law_script"] ["_law_script"] (defScope s__law_feed) := ⟨rfl, rfl, rfl, by decide +kernel, rfl, by decide +kernel, by decide +kernel⟩
def m__law_feed : MS :=
  (mRet (mDisp (mPCons (mC (.str "cells")) (mOp2 addD (mV (mOpN (one listD) (mOCons (mV (mSl cutD (mV (mVar 0)) mNoPart (mPart (mC (.int 63))))) mONil))) (mV (mOp2 mulD (mV (mLst (mCons (mC (.int 0)) mNil))) (mV (mOpN (one intD) (mOCons (mV (mOp2 eqD (mV (mVar 0)) (mV (mLst mNil)))) mONil)))))) (mPCons (mC (.str "at")) (mC (.int 0)) (mPCons (mC (.str "left")) (mC (.int 0)) (mPCons (mC (.str "turn")) (mC (.int 0)) mPNil))))))
def g__law_feed : List D → R D := fun ds => (runF 1 0 m__law_feed ds).noEx
theorem fn__law_feed {f : Addr} {fd : FuncData} (G : L2.Fun K "_law_feed" "_law_feed" s__law_feed f fd) (gs : Gs mg) : FnG P w K mg base CX0 1 f fd ["_law_script"] (spV K mg 1 (leaves 1) 0 (.dic .leaf) g__law_feed) := by
  refine Fun.okG (k := 0) (n := 1) (psh := (leaves 1)) (lsh := []) (fx := 0) (rsh := (.dic .leaf)) (m := m__law_feed) G sc__law_feed rfl rfl rfl (by decide) (.inr (nnx_ret _)) fun X h1 h2 h3 h4 h5 h6 h7 h8 h9 henv hr hgd => ?_
  obtain ⟨xP, xw, xK, xmg, xb, xA, xN, xs, xH, xe, xo, xst, xex, xfn, xc, xpn, xx⟩ := X
  obtain ⟨xL, xf, xcd, henv⟩ := henv
  dsimp only at h1 h2 h3 h4 h5 h6 h7 h8 h9 henv hr hgd
  subst h1 h2 h3 h4 h5 h6 h7 h8 h9 henv
  exact ⟨_, (svs_one (sv_ret (ev_disp (eps_cons ev_str (ev_op (k_add xK rfl) (s_add (K := xK)) (eo_of (ev_frz (ev_callT (k_listOf xK rfl) (s_listOf (K := xK)) (eos_cons (eo_of (ev_slice (k_sl xK rfl) (s_sl (K := xK)) (eo_of (ev_var 0)) ept_none (ept_some ev_int))) eos_nil) gs.b_list bt_list))) (eo_of (ev_op (k_mul xK rfl) (s_mul (K := xK)) (eo_of (ev_frz (ev_lst (ea_cons ev_int ea_nil)))) (eo_of (ev_callT call_int1 s_int (eos_cons (eo_of (ev_cmp (k_eq xK rfl (hu65 hr)) (s_eq (K := xK)) (eo_of (ev_var 0)) (eo_of (ev_frz (ev_lst ea_nil))) (by first | exact nomark _ | rfl))) eos_nil) gs.b_int bt_int))))) (eps_cons ev_str ev_int (eps_cons ev_str ev_int (eps_cons ev_str ev_int eps_nil)))))))⟩

/-! _law_draw -/
abbrev s__law_draw : Stmt := topS 18
theorem sc__law_draw : FnScope ["_law_feed_here", "_law_many", "_law_cell", "_law_mixed", "_law_found"] ["_law_feed_here", "_law_many"] (defScope s__law_draw) := ⟨rfl, rfl, rfl, by decide +kernel, rfl, by decide +kernel, by decide +kernel⟩
def m__law_draw : MS :=
  (mSeq (mPut 0 (mC (.str "turn")) (mOp2 addD (mV (mOp2 ixD (mS 0) (mV (mC (.str "turn"))))) (mV (mC (.int 1)))))
  (mSeq (mIfS (mTest (mOp2 eqD (mV (mOp2 ixD (mS 0) (mV (mC (.str "left"))))) (mV (mC (.int 0))))) (mSeq (mSet 2 (mOp2 ixD (mV (mOp2 ixD (mS 0) (mV (mC (.str "cells"))))) (mV (mOp2 modD (mV (mOp2 ixD (mS 0) (mV (mC (.str "at"))))) (mV (mOpN (one lenD) (mOCons (mV (mOp2 ixD (mS 0) (mV (mC (.str "cells"))))) mONil)))))))
  (mSeq (mPut 0 (mC (.str "at")) (mOp2 addD (mV (mOp2 ixD (mS 0) (mV (mC (.str "at"))))) (mV (mC (.int 1)))))
  (mSeq (mIfS (mTest (mOp2 ltD (mV (mVar 2)) (mV (mOp2 powD (mV (mC (.int 10))) (mV (mC (.int 18))))))) (mSeq (mSet 3 (mOp2 modD (mV (mOp2 mulD (mV (mOp2 addD (mV (mOp2 modD (mV (mVar 2)) (mV (mC (.int 2147483629))))) (mV (mOp2 mulD (mV (mC (.int 1013))) (mV (mOp2 ixD (mS 0) (mV (mC (.str "turn"))))))))) (mV (mC (.int 48271))))) (mV (mC (.int 2147483647)))))
  (mSeq (mSet 3 (mOp2 modD (mV (mOp2 mulD (mV (mOp2 addD (mV (mOp2 fdivD (mV (mVar 3)) (mV (mC (.int 13))))) (mV (mOp2 mulD (mV (mC (.int 37))) (mV (mOp2 ixD (mS 0) (mV (mC (.str "turn"))))))))) (mV (mC (.int 69621))))) (mV (mC (.int 2147483587)))))
  (mRet (mOp2 modD (mV (mOp2 fdivD (mV (mVar 3)) (mV (mC (.int 7))))) (mV (mVar 1)))))) mNx)
  (mPut 0 (mC (.str "left")) (mVar 2))))) mNx)
  (mSeq (mSet 4 (mOp2 modD (mV (mOp2 ixD (mS 0) (mV (mC (.str "left"))))) (mV (mVar 1))))
  (mSeq (mPut 0 (mC (.str "left")) (mOp2 fdivD (mV (mOp2 ixD (mS 0) (mV (mC (.str "left"))))) (mV (mVar 1))))
  (mRet (mVar 4))))))
def g__law_draw : List D → R D := fun ds => (runF 5 1 m__law_draw ds).noEx
theorem fn__law_draw {f : Addr} {fd : FuncData} (G : L2.Fun K "_law_draw" "_law_draw" s__law_draw f fd) (gs : Gs mg) : FnG P w K mg base CX0 1 f fd ["_law_feed_here", "_law_many"] (spV K mg 2 ((.dic .leaf) :: leaves 1) 1 .leaf g__law_draw) := by
  refine Fun.okG (k := 0) (n := 2) (psh := ((.dic .leaf) :: leaves 1)) (lsh := [.leaf, .leaf, .leaf]) (fx := 1) (rsh := .leaf) (m := m__law_draw) G sc__law_draw rfl rfl rfl (by decide) (.inl rfl) fun X h1 h2 h3 h4 h5 h6 h7 h8 h9 henv hr hgd => ?_
  obtain ⟨xP, xw, xK, xmg, xb, xA, xN, xs, xH, xe, xo, xst, xex, xfn, xc, xpn, xx⟩ := X
  obtain ⟨xL, xf, xcd, henv⟩ := henv
  dsimp only at h1 h2 h3 h4 h5 h6 h7 h8 h9 henv hr hgd
  subst h1 h2 h3 h4 h5 h6 h7 h8 h9 henv
  exact ⟨_, (svs_cons (sv_dput 0 (hu1 hr) ev_str (ev_op (k_add xK rfl) (s_add (K := xK)) (eo_of (ev_ix (k_ix xK rfl (hu1 hr)) (s_ix (K := xK)) (eo_own 0) (eo_of ev_str))) (eo_of ev_int)))
    (svs_cons (sv_if (et_cmp (k_eq xK rfl (hu65 hr)) (s_eq (K := xK)) (eo_of (ev_ix (k_ix xK rfl (hu1 hr)) (s_ix (K := xK)) (eo_own 0) (eo_of ev_str))) (eo_of ev_int) (by first | exact nomark _ | rfl)) (svs_cons (sv_set (i := 2) rfl (by decide) sc__law_draw.nd rfl (by first | exact .inl rfl | exact .inr rfl) (ev_ix (k_ix xK rfl (hu1 hr)) (s_ix (K := xK)) (eo_of (ev_ix (k_ix xK rfl (hu1 hr)) (s_ix (K := xK)) (eo_own 0) (eo_of ev_str))) (eo_of (ev_op op_mod s_mod (eo_of (ev_ix (k_ix xK rfl (hu1 hr)) (s_ix (K := xK)) (eo_own 0) (eo_of ev_str))) (eo_of (ev_callB (k_len xK rfl) (s_len (K := xK)) (eos_cons (eo_of (ev_ix (k_ix xK rfl (hu1 hr)) (s_ix (K := xK)) (eo_own 0) (eo_of ev_str))) eos_nil) gs.b_len bt_len))))))
    (svs_cons (sv_dput 0 (hu1 hr) ev_str (ev_op (k_add xK rfl) (s_add (K := xK)) (eo_of (ev_ix (k_ix xK rfl (hu1 hr)) (s_ix (K := xK)) (eo_own 0) (eo_of ev_str))) (eo_of ev_int)))
    (svs_cons (sv_if (et_cmp op_lt s_b (eo_of (ev_var 2)) (eo_of (ev_op op_pow s_pow (eo_of ev_int) (eo_of ev_int))) (by first | exact nomark _ | rfl)) (svs_cons (sv_set (i := 3) rfl (by decide) sc__law_draw.nd rfl (by first | exact .inl rfl | exact .inr rfl) (ev_op op_mod s_mod (eo_of (ev_op (k_mul xK rfl) (s_mul (K := xK)) (eo_of (ev_op (k_add xK rfl) (s_add (K := xK)) (eo_of (ev_op op_mod s_mod (eo_of (ev_var 2)) (eo_of ev_int))) (eo_of (ev_op (k_mul xK rfl) (s_mul (K := xK)) (eo_of ev_int) (eo_of (ev_ix (k_ix xK rfl (hu1 hr)) (s_ix (K := xK)) (eo_own 0) (eo_of ev_str))))))) (eo_of ev_int))) (eo_of ev_int)))
    (svs_cons (sv_set (i := 3) rfl (by decide) sc__law_draw.nd rfl (by first | exact .inl rfl | exact .inr rfl) (ev_op op_mod s_mod (eo_of (ev_op (k_mul xK rfl) (s_mul (K := xK)) (eo_of (ev_op (k_add xK rfl) (s_add (K := xK)) (eo_of (ev_op op_fdivW s_fdiv (eo_of (ev_var 3)) (eo_of ev_int))) (eo_of (ev_op (k_mul xK rfl) (s_mul (K := xK)) (eo_of ev_int) (eo_of (ev_ix (k_ix xK rfl (hu1 hr)) (s_ix (K := xK)) (eo_own 0) (eo_of ev_str))))))) (eo_of ev_int))) (eo_of ev_int)))
    (svs_one (sv_ret (ev_op op_mod s_mod (eo_of (ev_op op_fdivW s_fdiv (eo_of (ev_var 3)) (eo_of ev_int))) (eo_of (ev_var 1))))))) svs_nil)
    (svs_one (sv_dput 0 (hu1 hr) ev_str (ev_var 2)))))) svs_nil)
    (svs_cons (sv_set (i := 4) rfl (by decide) sc__law_draw.nd rfl (by first | exact .inl rfl | exact .inr rfl) (ev_op op_mod s_mod (eo_of (ev_ix (k_ix xK rfl (hu1 hr)) (s_ix (K := xK)) (eo_own 0) (eo_of ev_str))) (eo_of (ev_var 1))))
    (svs_cons (sv_dput 0 (hu1 hr) ev_str (ev_op op_fdivW s_fdiv (eo_of (ev_ix (k_ix xK rfl (hu1 hr)) (s_ix (K := xK)) (eo_own 0) (eo_of ev_str))) (eo_of (ev_var 1))))
    (svs_one (sv_ret (ev_var 4)))))))⟩

/-! _law_names -/
abbrev s__law_names : Stmt := topS 19
theorem sc__law_names : FnScope ["_law_feed_here", "_law_many", "_law_letters", "_law_start", "_law_way", "_law_size", "_law_at", "_law_names_here", "_law_head", "_law_tail", "_law_turn", "_law_k"] ["_law_feed_here", "_law_many"] (defScope s__law_names) := ⟨rfl, rfl, rfl, by decide +kernel, rfl, by decide +kernel, by decide +kernel⟩
def m__law_names : MS :=
  (mSeq (mSet 2 (mOp2 mulD (mV (mC (.str "abcdefghijklmnopqrstuvwxyz"))) (mV (mC (.int 2)))))
  (mSeq (mSet 3 (mCall1 0 1 g__law_draw (mCons (mC (.int 26)) mNil)))
  (mSeq (mSet 4 (mCall1 0 1 g__law_draw (mCons (mC (.int 4)) mNil)))
  (mSeq (mSet 5 (mOp2 addD (mV (mC (.int 1))) (mV (mCall1 0 1 g__law_draw (mCons (mC (.int 8)) mNil)))))
  (mSeq (mSet 6 (mCall1 0 1 g__law_draw (mCons (mVar 5) mNil)))
  (mSeq (mSet 7 (mLst (mCons (mC (.str "names")) (mCons (mC (.str "ahead")) (mCons (mC (.str "name")) (mCons (mC (.str "a")) (mCons (mC (.str "ab")) (mCons (mC (.str "aheads")) (mCons (mC (.str "last")) (mCons (mC (.str "ask")) (mCons (mC (.str "row")) (mCons (mC (.str "end")) mNil))))))))))))
  (mSeq (mIfS (mTest (mOp2 eqD (mV (mVar 4)) (mV (mC (.int 0))))) (mSet 7 (mOp2 addD (mV (mLc (mR1 (mCons (mC (.int 8)) mNil)) (kName 11) mYes (mSl cutD (mV (mVar 2)) (mPart (mVar 3)) (mPart (mOp2 addD (mV (mOp2 addD (mV (mVar 3)) (mV (mC (.int 1))))) (mV (mVar 11))))) [11])) (mV (mLst (mCons (mOp2 ixD (mV (mVar 2)) (mV (mOp2 addD (mV (mVar 3)) (mV (mC (.int 9)))))) (mCons (mOp2 ixD (mV (mVar 2)) (mV (mOp2 addD (mV (mVar 3)) (mV (mC (.int 10)))))) mNil)))))) mNx)
  (mSeq (mIfS (mTest (mOp2 eqD (mV (mVar 4)) (mV (mC (.int 1))))) (mSeq (mSet 8 (mSl cutD (mV (mVar 2)) (mPart (mVar 3)) (mPart (mOp2 addD (mV (mVar 3)) (mV (mVar 6))))))
  (mSeq (mSet 9 (mSl cutD (mV (mVar 2)) (mPart (mOp2 addD (mV (mOp2 addD (mV (mVar 3)) (mV (mVar 6)))) (mV (mC (.int 1))))) (mPart (mOp2 addD (mV (mVar 3)) (mV (mVar 5))))))
  (mSet 7 (mLc (mR1 (mCons (mC (.int 10)) mNil)) (kName 11) mYes (mOp2 addD (mV (mOp2 addD (mV (mVar 8)) (mV (mOp2 ixD (mV (mVar 2)) (mV (mOp2 addD (mV (mVar 3)) (mV (mOp2 modD (mV (mOp2 mulD (mV (mC (.int 5))) (mV (mVar 11)))) (mV (mC (.int 26))))))))))) (mV (mVar 9))) [11])))) mNx)
  (mSeq (mIfS (mTest (mOp2 eqD (mV (mVar 4)) (mV (mC (.int 2))))) (mSet 7 (mLc (mR1 (mCons (mC (.int 10)) mNil)) (kName 11) mYes (mSl cutD (mV (mVar 2)) (mPart (mOp2 addD (mV (mVar 3)) (mV (mVar 11)))) (mPart (mOp2 addD (mV (mOp2 addD (mV (mOp2 addD (mV (mVar 3)) (mV (mVar 11)))) (mV (mC (.int 1))))) (mV (mOp2 modD (mV (mOp2 mulD (mV (mC (.int 3))) (mV (mVar 11)))) (mV (mC (.int 8)))))))) [11])) mNx)
  (mSeq (mSet 10 (mCall1 0 1 g__law_draw (mCons (mC (.int 10)) mNil)))
  (mSeq (mSet 7 (mOp2 addD (mV (mSl cutD (mV (mVar 7)) (mPart (mVar 10)) mNoPart)) (mV (mSl cutD (mV (mVar 7)) mNoPart (mPart (mVar 10))))))
  (mRet (mOp2 stepD (mV (mSl cutD (mV (mVar 7)) mNoPart (mPart (mVar 1)))) (mV (mOp2 ixD (mV (mLst (mCons (mC (.int 1)) (mCons (mOp1 negD (mV (mC (.int 1)))) mNil)))) (mV (mCall1 0 1 g__law_draw (mCons (mC (.int 2)) mNil))))))))))))))))))
def g__law_names : List D → R D := fun ds => (runF 12 1 m__law_names ds).noEx
theorem fn__law_names {f : Addr} {fd : FuncData} (G : L2.Fun K "_law_names" "_law_names" s__law_names f fd) (gs : Gs mg) (c__law_draw : Clp P w K mg base CX0 1 "_law_draw" 2 ((.dic .leaf) :: leaves 1) 1 .leaf g__law_draw) : FnG P w K mg base CX0 2 f fd ["_law_feed_here", "_law_many"] (spV K mg 2 ((.dic .leaf) :: leaves 1) 1 .leaf g__law_names) := by
  refine Fun.okG (k := 1) (n := 2) (psh := ((.dic .leaf) :: leaves 1)) (lsh := [.leaf, .leaf, .leaf, .leaf, .leaf, .leaf, .leaf, .leaf, .leaf, .leaf]) (fx := 1) (rsh := .leaf) (m := m__law_names) G sc__law_names rfl rfl rfl (by decide) (.inl rfl) fun X h1 h2 h3 h4 h5 h6 h7 h8 h9 henv hr hgd => ?_
  obtain ⟨xP, xw, xK, xmg, xb, xA, xN, xs, xH, xe, xo, xst, xex, xfn, xc, xpn, xx⟩ := X
  obtain ⟨xL, xf, xcd, henv⟩ := henv
  dsimp only at h1 h2 h3 h4 h5 h6 h7 h8 h9 henv hr hgd
  subst h1 h2 h3 h4 h5 h6 h7 h8 h9 henv
  exact ⟨_, (svs_cons (sv_set (i := 2) rfl (by decide) sc__law_names.nd rfl (by first | exact .inl rfl | exact .inr rfl) (ev_op (k_mul xK rfl) (s_mul (K := xK)) (eo_of ev_str) (eo_of ev_int)))
    (svs_cons (sv_set (i := 3) rfl (by decide) sc__law_names.nd rfl (by first | exact .inl rfl | exact .inr rfl) (kv_call1 xK rfl xmg rfl 0 (c__law_draw.cl (by decide) rfl rfl rfl rfl rfl) px0 hr hgd (ea_cons ev_int ea_nil)))
    (svs_cons (sv_set (i := 4) rfl (by decide) sc__law_names.nd rfl (by first | exact .inl rfl | exact .inr rfl) (kv_call1 xK rfl xmg rfl 0 (c__law_draw.cl (by decide) rfl rfl rfl rfl rfl) px0 hr hgd (ea_cons ev_int ea_nil)))
    (svs_cons (sv_set (i := 5) rfl (by decide) sc__law_names.nd rfl (by first | exact .inl rfl | exact .inr rfl) (ev_op (k_add xK rfl) (s_add (K := xK)) (eo_of ev_int) (eo_of (kv_call1 xK rfl xmg rfl 0 (c__law_draw.cl (by decide) rfl rfl rfl rfl rfl) px0 hr hgd (ea_cons ev_int ea_nil)))))
    (svs_cons (sv_set (i := 6) rfl (by decide) sc__law_names.nd rfl (by first | exact .inl rfl | exact .inr rfl) (kv_call1 xK rfl xmg rfl 0 (c__law_draw.cl (by decide) rfl rfl rfl rfl rfl) px0 hr hgd (ea_cons (ev_var 5) ea_nil)))
    (svs_cons (sv_set (i := 7) rfl (by decide) sc__law_names.nd rfl (by first | exact .inl rfl | exact .inr rfl) (ev_frz (ev_lst (ea_cons ev_str (ea_cons ev_str (ea_cons ev_str (ea_cons ev_str (ea_cons ev_str (ea_cons ev_str (ea_cons ev_str (ea_cons ev_str (ea_cons ev_str (ea_cons ev_str ea_nil)))))))))))))
    (svs_cons (sv_if (et_cmp (k_eq xK rfl (hu65 hr)) (s_eq (K := xK)) (eo_of (ev_var 4)) (eo_of ev_int) (by first | exact nomark _ | rfl)) (svs_one (sv_set (i := 7) rfl (by decide) sc__law_names.nd rfl (by first | exact .inl rfl | exact .inr rfl) (ev_op (k_add xK rfl) (s_add (K := xK)) (eo_of (ev_frz (ev_lc (own := [("_law_k", 11)]) rfl sc__law_names.nd (iv_rng1 (ea_cons ev_int ea_nil) gs.b_range) (blkOk_by (N := ["_law_feed_here", "_law_many", "_law_letters", "_law_start", "_law_way", "_law_size", "_law_at", "_law_names_here", "_law_head", "_law_tail", "_law_turn", "_law_k"]) (sc := defScope s__law_names) (own := [("_law_k", 11)]) (by decide +kernel)) (by decide) (hk1 rfl) (fun _ _ _ _ _ => (gv_name sc__law_names.nd (i := 11) rfl (by first | exact .inl rfl | exact .inr rfl) rfl (fun σ x => tw_set (by decide) σ x))) (fun _ _ _ _ _ => ets_nil) (fun _ _ _ _ _ => (ev_slice (k_sl xK rfl) (s_sl (K := xK)) (eo_of (ev_var 2)) (ept_some (ev_var 3)) (ept_some (ev_op (k_add xK rfl) (s_add (K := xK)) (eo_of (ev_op (k_add xK rfl) (s_add (K := xK)) (eo_of (ev_var 3)) (eo_of ev_int))) (eo_of (ev_var 11))))))))) (eo_of (ev_frz (ev_lst (ea_cons (ev_ix (k_ix xK rfl (hu1 hr)) (s_ix (K := xK)) (eo_of (ev_var 2)) (eo_of (ev_op (k_add xK rfl) (s_add (K := xK)) (eo_of (ev_var 3)) (eo_of ev_int)))) (ea_cons (ev_ix (k_ix xK rfl (hu1 hr)) (s_ix (K := xK)) (eo_of (ev_var 2)) (eo_of (ev_op (k_add xK rfl) (s_add (K := xK)) (eo_of (ev_var 3)) (eo_of ev_int)))) ea_nil)))))))) svs_nil)
    (svs_cons (sv_if (et_cmp (k_eq xK rfl (hu65 hr)) (s_eq (K := xK)) (eo_of (ev_var 4)) (eo_of ev_int) (by first | exact nomark _ | rfl)) (svs_cons (sv_set (i := 8) rfl (by decide) sc__law_names.nd rfl (by first | exact .inl rfl | exact .inr rfl) (ev_slice (k_sl xK rfl) (s_sl (K := xK)) (eo_of (ev_var 2)) (ept_some (ev_var 3)) (ept_some (ev_op (k_add xK rfl) (s_add (K := xK)) (eo_of (ev_var 3)) (eo_of (ev_var 6))))))
    (svs_cons (sv_set (i := 9) rfl (by decide) sc__law_names.nd rfl (by first | exact .inl rfl | exact .inr rfl) (ev_slice (k_sl xK rfl) (s_sl (K := xK)) (eo_of (ev_var 2)) (ept_some (ev_op (k_add xK rfl) (s_add (K := xK)) (eo_of (ev_op (k_add xK rfl) (s_add (K := xK)) (eo_of (ev_var 3)) (eo_of (ev_var 6)))) (eo_of ev_int))) (ept_some (ev_op (k_add xK rfl) (s_add (K := xK)) (eo_of (ev_var 3)) (eo_of (ev_var 5))))))
    (svs_one (sv_setLc (i := 7) (own := [("_law_k", 11)]) rfl sc__law_names.nd rfl rfl rfl (by decide) (by first | exact .inl rfl | exact .inr rfl) (sw_true rfl rfl rfl (by decide +kernel)) (iv_rng1 (ea_cons ev_int ea_nil) gs.b_range) (blkOk_by (N := ["_law_feed_here", "_law_many", "_law_letters", "_law_start", "_law_way", "_law_size", "_law_at", "_law_names_here", "_law_head", "_law_tail", "_law_turn", "_law_k"]) (sc := defScope s__law_names) (own := [("_law_k", 11)]) (by decide +kernel)) (by decide) (hk1 rfl) (fun _ _ _ _ _ => (gv_name sc__law_names.nd (i := 11) rfl (by first | exact .inl rfl | exact .inr rfl) rfl (fun σ x => tw_set (by decide) σ x))) (fun _ _ _ _ _ => ets_nil) (fun _ _ _ _ _ => (ev_op (k_add xK rfl) (s_add (K := xK)) (eo_of (ev_op (k_add xK rfl) (s_add (K := xK)) (eo_of (ev_var 8)) (eo_of (ev_ix (k_ix xK rfl (hu1 hr)) (s_ix (K := xK)) (eo_of (ev_var 2)) (eo_of (ev_op (k_add xK rfl) (s_add (K := xK)) (eo_of (ev_var 3)) (eo_of (ev_op op_mod s_mod (eo_of (ev_op (k_mul xK rfl) (s_mul (K := xK)) (eo_of ev_int) (eo_of (ev_var 11)))) (eo_of ev_int))))))))) (eo_of (ev_var 9)))))))) svs_nil)
    (svs_cons (sv_if (et_cmp (k_eq xK rfl (hu65 hr)) (s_eq (K := xK)) (eo_of (ev_var 4)) (eo_of ev_int) (by first | exact nomark _ | rfl)) (svs_one (sv_setLc (i := 7) (own := [("_law_k", 11)]) rfl sc__law_names.nd rfl rfl rfl (by decide) (by first | exact .inl rfl | exact .inr rfl) (sw_true rfl rfl rfl (by decide +kernel)) (iv_rng1 (ea_cons ev_int ea_nil) gs.b_range) (blkOk_by (N := ["_law_feed_here", "_law_many", "_law_letters", "_law_start", "_law_way", "_law_size", "_law_at", "_law_names_here", "_law_head", "_law_tail", "_law_turn", "_law_k"]) (sc := defScope s__law_names) (own := [("_law_k", 11)]) (by decide +kernel)) (by decide) (hk1 rfl) (fun _ _ _ _ _ => (gv_name sc__law_names.nd (i := 11) rfl (by first | exact .inl rfl | exact .inr rfl) rfl (fun σ x => tw_set (by decide) σ x))) (fun _ _ _ _ _ => ets_nil) (fun _ _ _ _ _ => (ev_slice (k_sl xK rfl) (s_sl (K := xK)) (eo_of (ev_var 2)) (ept_some (ev_op (k_add xK rfl) (s_add (K := xK)) (eo_of (ev_var 3)) (eo_of (ev_var 11)))) (ept_some (ev_op (k_add xK rfl) (s_add (K := xK)) (eo_of (ev_op (k_add xK rfl) (s_add (K := xK)) (eo_of (ev_op (k_add xK rfl) (s_add (K := xK)) (eo_of (ev_var 3)) (eo_of (ev_var 11)))) (eo_of ev_int))) (eo_of (ev_op op_mod s_mod (eo_of (ev_op (k_mul xK rfl) (s_mul (K := xK)) (eo_of ev_int) (eo_of (ev_var 11)))) (eo_of ev_int))))))))) svs_nil)
    (svs_cons (sv_set (i := 10) rfl (by decide) sc__law_names.nd rfl (by first | exact .inl rfl | exact .inr rfl) (kv_call1 xK rfl xmg rfl 0 (c__law_draw.cl (by decide) rfl rfl rfl rfl rfl) px0 hr hgd (ea_cons ev_int ea_nil)))
    (svs_cons (sv_set (i := 7) rfl (by decide) sc__law_names.nd rfl (by first | exact .inl rfl | exact .inr rfl) (ev_op (k_add xK rfl) (s_add (K := xK)) (eo_of (ev_slice (k_sl xK rfl) (s_sl (K := xK)) (eo_of (ev_var 7)) (ept_some (ev_var 10)) ept_none)) (eo_of (ev_slice (k_sl xK rfl) (s_sl (K := xK)) (eo_of (ev_var 7)) ept_none (ept_some (ev_var 10))))))
    (svs_one (sv_ret (ev_frz (ev_step xK rfl (eo_of (ev_slice (k_sl xK rfl) (s_sl (K := xK)) (eo_of (ev_var 7)) ept_none (ept_some (ev_var 1)))) (eo_of (ev_ix (k_ix xK rfl (hu1 hr)) (s_ix (K := xK)) (eo_of (ev_frz (ev_lst (ea_cons ev_int (ea_cons (ev_un un_neg s_neg (eo_of ev_int)) ea_nil))))) (eo_of (kv_call1 xK rfl xmg rfl 0 (c__law_draw.cl (by decide) rfl rfl rfl rfl rfl) px0 hr hgd (ea_cons ev_int ea_nil))))))))))))))))))))⟩

/-! _law_shuffled -/
abbrev s__law_shuffled : Stmt := topS 20
theorem sc__law_shuffled : FnScope ["_law_feed_here", "_law_some", "_law_left", "_law_found", "_law_k"] ["_law_feed_here", "_law_some"] (defScope s__law_shuffled) := ⟨rfl, rfl, rfl, by decide +kernel, rfl, by decide +kernel, by decide +kernel⟩
def m__law_shuffled : MS :=
  (mSeq (mSet 2 (mOpN (one listD) (mOCons (mV (mVar 1)) mONil)))
  (mSeq (mSet 3 (mLst mNil))
  (mSeq (mLoop (kName 4) (mDrop (mMtL 3 appendD (mCons (mMtL 2 popD (mCons (mCall1 0 1 g__law_draw (mCons (mOpN (one lenD) (mOCons (mS 2) mONil)) mNil)) mNil)) mNil))) (mR1 (mCons (mOpN (one lenD) (mOCons (mS 2) mONil)) mNil)))
  (mRet (mMove 3)))))
def g__law_shuffled : List D → R D := fun ds => (runF 5 1 m__law_shuffled ds).noEx
theorem fn__law_shuffled {f : Addr} {fd : FuncData} (G : L2.Fun K "_law_shuffled" "_law_shuffled" s__law_shuffled f fd) (gs : Gs mg) (c__law_draw : Clp P w K mg base CX0 1 "_law_draw" 2 ((.dic .leaf) :: leaves 1) 1 .leaf g__law_draw) : FnG P w K mg base CX0 2 f fd ["_law_feed_here", "_law_some"] (spV K mg 2 ((.dic .leaf) :: leaves 1) 1 .leaf g__law_shuffled) := by
  refine Fun.okG (k := 1) (n := 2) (psh := ((.dic .leaf) :: leaves 1)) (lsh := [(.lst .leaf), (.lst .leaf), .leaf]) (fx := 1) (rsh := .leaf) (m := m__law_shuffled) G sc__law_shuffled rfl rfl rfl (by decide) (.inl rfl) fun X h1 h2 h3 h4 h5 h6 h7 h8 h9 henv hr hgd => ?_
  obtain ⟨xP, xw, xK, xmg, xb, xA, xN, xs, xH, xe, xo, xst, xex, xfn, xc, xpn, xx⟩ := X
  obtain ⟨xL, xf, xcd, henv⟩ := henv
  dsimp only at h1 h2 h3 h4 h5 h6 h7 h8 h9 henv hr hgd
  subst h1 h2 h3 h4 h5 h6 h7 h8 h9 henv
  exact ⟨_, (svs_cons (sv_set (i := 2) rfl (by decide) sc__law_shuffled.nd rfl (by first | exact .inl rfl | exact .inr rfl) (ev_callT (k_listOf xK rfl) (s_listOf (K := xK)) (eos_cons (eo_of (ev_var 1)) eos_nil) gs.b_list bt_list))
    (svs_cons (sv_set (i := 3) rfl (by decide) sc__law_shuffled.nd rfl (by first | exact .inl rfl | exact .inr rfl) (ev_lst ea_nil))
    (svs_cons (sv_for PassesOwn.never rfl (iv_rng1 (ea_cons (ev_callB (k_len xK rfl) (s_len (K := xK)) (eos_cons (eo_own 2) eos_nil) gs.b_len bt_len) ea_nil) gs.b_range) (gv_name sc__law_shuffled.nd (i := 4) rfl (by first | exact .inl rfl | exact .inr rfl) rfl (fun σ x => tk_set (by decide) σ x)) (svs_one (sv_expr (ev_mtL 3 PySem.F.slot_list_append PySem.F.type_list_append mt_append m_append (ea_cons (ev_mtL 2 PySem.F.slot_list_pop PySem.F.type_list_pop mt_popU m_pop (ea_cons (kv_call1 xK rfl xmg rfl 0 (c__law_draw.cl (by decide) rfl rfl rfl rfl rfl) px0 hr hgd (ea_cons (ev_callB (k_len xK rfl) (s_len (K := xK)) (eos_cons (eo_own 2) eos_nil) gs.b_len bt_len) ea_nil)) ea_nil)) ea_nil)))))
    (svs_one (sv_ret (ev_frz (ev_move 3)))))))⟩

/-! _law_pairs -/
abbrev s__law_pairs : Stmt := topS 21
theorem sc__law_pairs : FnScope ["_law_feed_here", "_law_line", "_law_many", "_law_way", "_law_found", "_law_k", "_law_at", "_law_cut", "_law_one", "_law_other"] ["_law_feed_here", "_law_line"] (defScope s__law_pairs) := ⟨rfl, rfl, rfl, by decide +kernel, rfl, by decide +kernel, by decide +kernel⟩
def m__law_pairs : MS :=
  (mSeq (mSet 2 (mOpN (one lenD) (mOCons (mV (mVar 1)) mONil)))
  (mSeq (mSet 3 (mCall1 0 1 g__law_draw (mCons (mC (.int 7)) mNil)))
  (mSeq (mSet 4 (mLst mNil))
  (mSeq (mIfS (mAnd (mTest (mOp2 ltD (mV (mVar 3)) (mV (mC (.int 3))))) (mTest (mOp2 gtD (mV (mVar 2)) (mV (mC (.int 1)))))) (mLoop (kName 5) (mSeq (mSet 6 (mCall1 0 1 g__law_draw (mCons (mOp2 subD (mV (mVar 2)) (mV (mC (.int 1)))) mNil)))
  (mDrop (mMtL 4 appendD (mCons (mTup (mCons (mOp2 ixD (mV (mVar 1)) (mV (mVar 6))) (mCons (mOp2 ixD (mV (mVar 1)) (mV (mOp2 addD (mV (mOp2 addD (mV (mVar 6)) (mV (mC (.int 1))))) (mV (mCall1 0 1 g__law_draw (mCons (mOp2 subD (mV (mOp2 subD (mV (mVar 2)) (mV (mC (.int 1))))) (mV (mVar 6))) mNil)))))) mNil))) mNil)))) (mR1 (mCons (mOp2 ixD (mV (mLst (mCons (mOp2 fdivD (mV (mVar 2)) (mV (mC (.int 2)))) (mCons (mVar 2) (mCons (mOp2 mulD (mV (mC (.int 3))) (mV (mVar 2))) mNil))))) (mV (mVar 3))) mNil))) mNx)
  (mSeq (mIfS (mTest (mOp2 eqD (mV (mVar 3)) (mV (mC (.int 3))))) (mSeq (mSet 7 (mCall1 0 1 g__law_draw (mCons (mOp2 addD (mV (mVar 2)) (mV (mC (.int 1)))) mNil)))
  (mSet 4 (mLc (mR1 (mCons (mOp2 subD (mV (mVar 2)) (mV (mC (.int 1)))) mNil)) (kName 5) (mTest (mOp2 neD (mV (mOp2 addD (mV (mVar 5)) (mV (mC (.int 1))))) (mV (mVar 7)))) (mTup (mCons (mOp2 ixD (mV (mVar 1)) (mV (mVar 5))) (mCons (mOp2 ixD (mV (mVar 1)) (mV (mOp2 addD (mV (mVar 5)) (mV (mC (.int 1)))))) mNil))) [5]))) mNx)
  (mSeq (mIfS (mTest (mOp2 eqD (mV (mVar 3)) (mV (mC (.int 4))))) (mSet 4 (mLc (mR2 (mCons (mC (.int 1)) (mCons (mVar 2) mNil))) (kName 5) (mTest (mOp2 gtD (mV (mCall1 0 1 g__law_draw (mCons (mC (.int 4)) mNil))) (mV (mC (.int 0))))) (mTup (mCons (mOp2 ixD (mV (mVar 1)) (mV (mCall1 0 1 g__law_draw (mCons (mVar 5) mNil)))) (mCons (mOp2 ixD (mV (mVar 1)) (mV (mVar 5))) mNil))) [5])) mNx)
  (mSeq (mIfS (mTest (mOp2 eqD (mV (mVar 3)) (mV (mC (.int 5))))) (mSeq (mSet 7 (mCall1 0 1 g__law_draw (mCons (mOp2 addD (mV (mVar 2)) (mV (mC (.int 1)))) mNil)))
  (mLoop (kName 8) (mDrop (mMtL 4 extendD (mCons (mLc (mLs (mSl cutD (mV (mVar 1)) (mPart (mVar 7)) mNoPart)) (kName 9) mYes (mTup (mCons (mVar 8) (mCons (mVar 9) mNil))) [9]) mNil))) (mLs (mSl cutD (mV (mVar 1)) mNoPart (mPart (mVar 7)))))) mNx)
  (mRet (mMove 4)))))))))
def g__law_pairs : List D → R D := fun ds => (runF 10 1 m__law_pairs ds).noEx
theorem fn__law_pairs {f : Addr} {fd : FuncData} (G : L2.Fun K "_law_pairs" "_law_pairs" s__law_pairs f fd) (gs : Gs mg) (c__law_draw : Clp P w K mg base CX0 1 "_law_draw" 2 ((.dic .leaf) :: leaves 1) 1 .leaf g__law_draw) : FnG P w K mg base CX0 2 f fd ["_law_feed_here", "_law_line"] (spV K mg 2 ((.dic .leaf) :: leaves 1) 1 .leaf g__law_pairs) := by
  refine Fun.okG (k := 1) (n := 2) (psh := ((.dic .leaf) :: leaves 1)) (lsh := [.leaf, .leaf, (.lst .leaf), .leaf, .leaf, .leaf, .leaf, .leaf]) (fx := 1) (rsh := .leaf) (m := m__law_pairs) G sc__law_pairs rfl rfl rfl (by decide) (.inl rfl) fun X h1 h2 h3 h4 h5 h6 h7 h8 h9 henv hr hgd => ?_
  obtain ⟨xP, xw, xK, xmg, xb, xA, xN, xs, xH, xe, xo, xst, xex, xfn, xc, xpn, xx⟩ := X
  obtain ⟨xL, xf, xcd, henv⟩ := henv
  dsimp only at h1 h2 h3 h4 h5 h6 h7 h8 h9 henv hr hgd
  subst h1 h2 h3 h4 h5 h6 h7 h8 h9 henv
  exact ⟨_, (svs_cons (sv_set (i := 2) rfl (by decide) sc__law_pairs.nd rfl (by first | exact .inl rfl | exact .inr rfl) (ev_callB (k_len xK rfl) (s_len (K := xK)) (eos_cons (eo_of (ev_var 1)) eos_nil) gs.b_len bt_len))
    (svs_cons (sv_set (i := 3) rfl (by decide) sc__law_pairs.nd rfl (by first | exact .inl rfl | exact .inr rfl) (kv_call1 xK rfl xmg rfl 0 (c__law_draw.cl (by decide) rfl rfl rfl rfl rfl) px0 hr hgd (ea_cons ev_int ea_nil)))
    (svs_cons (sv_set (i := 4) rfl (by decide) sc__law_pairs.nd rfl (by first | exact .inl rfl | exact .inr rfl) (ev_lst ea_nil))
    (svs_cons (sv_if (et_w (ew_and (et_cmp op_lt s_b (eo_of (ev_var 3)) (eo_of ev_int) (by first | exact nomark _ | rfl)) (ew_and1 (et_cmp op_gt s_b (eo_of (ev_var 2)) (eo_of ev_int) (by first | exact nomark _ | rfl))))) (svs_one (sv_for PassesOwn.never rfl (iv_rng1 (ea_cons (ev_ix (k_ix xK rfl (hu1 hr)) (s_ix (K := xK)) (eo_of (ev_frz (ev_lst (ea_cons (ev_op op_fdivW s_fdiv (eo_of (ev_var 2)) (eo_of ev_int)) (ea_cons (ev_var 2) (ea_cons (ev_op (k_mul xK rfl) (s_mul (K := xK)) (eo_of ev_int) (eo_of (ev_var 2))) ea_nil)))))) (eo_of (ev_var 3))) ea_nil) gs.b_range) (gv_name sc__law_pairs.nd (i := 5) rfl (by first | exact .inl rfl | exact .inr rfl) rfl (fun σ x => tk_set (by decide) σ x)) (svs_cons (sv_set (i := 6) rfl (by decide) sc__law_pairs.nd rfl (by first | exact .inl rfl | exact .inr rfl) (kv_call1 xK rfl xmg rfl 0 (c__law_draw.cl (by decide) rfl rfl rfl rfl rfl) px0 hr hgd (ea_cons (ev_op op_sub s_sub (eo_of (ev_var 2)) (eo_of ev_int)) ea_nil)))
    (svs_one (sv_expr (ev_mtL 4 PySem.F.slot_list_append PySem.F.type_list_append mt_append m_append (ea_cons (ev_tup (ea_cons (ev_ix (k_ix xK rfl (hu1 hr)) (s_ix (K := xK)) (eo_of (ev_var 1)) (eo_of (ev_var 6))) (ea_cons (ev_ix (k_ix xK rfl (hu1 hr)) (s_ix (K := xK)) (eo_of (ev_var 1)) (eo_of (ev_op (k_add xK rfl) (s_add (K := xK)) (eo_of (ev_op (k_add xK rfl) (s_add (K := xK)) (eo_of (ev_var 6)) (eo_of ev_int))) (eo_of (kv_call1 xK rfl xmg rfl 0 (c__law_draw.cl (by decide) rfl rfl rfl rfl rfl) px0 hr hgd (ea_cons (ev_op op_sub s_sub (eo_of (ev_op op_sub s_sub (eo_of (ev_var 2)) (eo_of ev_int))) (eo_of (ev_var 6))) ea_nil)))))) ea_nil))) ea_nil))))))) svs_nil)
    (svs_cons (sv_if (et_cmp (k_eq xK rfl (hu65 hr)) (s_eq (K := xK)) (eo_of (ev_var 3)) (eo_of ev_int) (by first | exact nomark _ | rfl)) (svs_cons (sv_set (i := 7) rfl (by decide) sc__law_pairs.nd rfl (by first | exact .inl rfl | exact .inr rfl) (kv_call1 xK rfl xmg rfl 0 (c__law_draw.cl (by decide) rfl rfl rfl rfl rfl) px0 hr hgd (ea_cons (ev_op (k_add xK rfl) (s_add (K := xK)) (eo_of (ev_var 2)) (eo_of ev_int)) ea_nil)))
    (svs_one (sv_setLc (i := 4) (own := [("_law_k", 5)]) rfl sc__law_pairs.nd rfl rfl rfl (by decide) (by first | exact .inl rfl | exact .inr rfl) (sw_true rfl rfl rfl (by decide +kernel)) (iv_rng1 (ea_cons (ev_op op_sub s_sub (eo_of (ev_var 2)) (eo_of ev_int)) ea_nil) gs.b_range) (blkOk_by (N := ["_law_feed_here", "_law_line", "_law_many", "_law_way", "_law_found", "_law_k", "_law_at", "_law_cut", "_law_one", "_law_other"]) (sc := defScope s__law_pairs) (own := [("_law_k", 5)]) (by decide +kernel)) (by decide) (hk1 rfl) (fun _ _ _ _ _ => (gv_name sc__law_pairs.nd (i := 5) rfl (by first | exact .inl rfl | exact .inr rfl) rfl (fun σ x => tw_set (by decide) σ x))) (fun _ _ _ _ _ => (ets_one (et_cmp (k_ne xK rfl (hu65 hr)) (s_ne (K := xK)) (eo_of (ev_op (k_add xK rfl) (s_add (K := xK)) (eo_of (ev_var 5)) (eo_of ev_int))) (eo_of (ev_var 7)) (by first | exact nomark _ | rfl)))) (fun _ _ _ _ _ => (ev_tup (ea_cons (ev_ix (k_ix xK rfl (hu1 hr)) (s_ix (K := xK)) (eo_of (ev_var 1)) (eo_of (ev_var 5))) (ea_cons (ev_ix (k_ix xK rfl (hu1 hr)) (s_ix (K := xK)) (eo_of (ev_var 1)) (eo_of (ev_op (k_add xK rfl) (s_add (K := xK)) (eo_of (ev_var 5)) (eo_of ev_int)))) ea_nil))))))) svs_nil)
    (svs_cons (sv_if (et_cmp (k_eq xK rfl (hu65 hr)) (s_eq (K := xK)) (eo_of (ev_var 3)) (eo_of ev_int) (by first | exact nomark _ | rfl)) (svs_one (sv_setLc (i := 4) (own := [("_law_k", 5)]) rfl sc__law_pairs.nd rfl rfl rfl (by decide) (by first | exact .inl rfl | exact .inr rfl) (sw_true rfl rfl rfl (by decide +kernel)) (iv_rng2 (ea_cons ev_int (ea_cons (ev_var 2) ea_nil)) gs.b_range) (blkOk_by (N := ["_law_feed_here", "_law_line", "_law_many", "_law_way", "_law_found", "_law_k", "_law_at", "_law_cut", "_law_one", "_law_other"]) (sc := defScope s__law_pairs) (own := [("_law_k", 5)]) (by decide +kernel)) (by decide) (hk1 rfl) (fun _ _ _ _ _ => (gv_name sc__law_pairs.nd (i := 5) rfl (by first | exact .inl rfl | exact .inr rfl) rfl (fun σ x => tw_set (by decide) σ x))) (fun _ _ _ _ _ => (ets_one (et_cmp op_gt s_b (eo_of (kv_call1 xK rfl xmg rfl 0 (c__law_draw.cl (by decide) rfl rfl rfl rfl rfl) px0 hr hgd (ea_cons ev_int ea_nil))) (eo_of ev_int) (by first | exact nomark _ | rfl)))) (fun _ _ _ _ _ => (ev_tup (ea_cons (ev_ix (k_ix xK rfl (hu1 hr)) (s_ix (K := xK)) (eo_of (ev_var 1)) (eo_of (kv_call1 xK rfl xmg rfl 0 (c__law_draw.cl (by decide) rfl rfl rfl rfl rfl) px0 hr hgd (ea_cons (ev_var 5) ea_nil)))) (ea_cons (ev_ix (k_ix xK rfl (hu1 hr)) (s_ix (K := xK)) (eo_of (ev_var 1)) (eo_of (ev_var 5))) ea_nil)))))) svs_nil)
    (svs_cons (sv_if (et_cmp (k_eq xK rfl (hu65 hr)) (s_eq (K := xK)) (eo_of (ev_var 3)) (eo_of ev_int) (by first | exact nomark _ | rfl)) (svs_cons (sv_set (i := 7) rfl (by decide) sc__law_pairs.nd rfl (by first | exact .inl rfl | exact .inr rfl) (kv_call1 xK rfl xmg rfl 0 (c__law_draw.cl (by decide) rfl rfl rfl rfl rfl) px0 hr hgd (ea_cons (ev_op (k_add xK rfl) (s_add (K := xK)) (eo_of (ev_var 2)) (eo_of ev_int)) ea_nil)))
    (svs_one (sv_for PassesOwn.never rfl (kv_list xK rfl (ev_slice (k_sl xK rfl) (s_sl (K := xK)) (eo_of (ev_var 1)) ept_none (ept_some (ev_var 7)))) (gv_name sc__law_pairs.nd (i := 8) rfl (by first | exact .inl rfl | exact .inr rfl) rfl (fun σ x => tk_set (by decide) σ x)) (svs_one (sv_expr (ev_mtL 4 PySem.F.slot_list_extend PySem.F.type_list_extend mt_extend m_extend (ea_cons (ev_frz (ev_lc (own := [("_law_other", 9)]) rfl sc__law_pairs.nd (kv_list xK rfl (ev_slice (k_sl xK rfl) (s_sl (K := xK)) (eo_of (ev_var 1)) (ept_some (ev_var 7)) ept_none)) (blkOk_by (N := ["_law_feed_here", "_law_line", "_law_many", "_law_way", "_law_found", "_law_k", "_law_at", "_law_cut", "_law_one", "_law_other"]) (sc := defScope s__law_pairs) (own := [("_law_other", 9)]) (by decide +kernel)) (by decide) (hk1 rfl) (fun _ _ _ _ _ => (gv_name sc__law_pairs.nd (i := 9) rfl (by first | exact .inl rfl | exact .inr rfl) rfl (fun σ x => tw_set (by decide) σ x))) (fun _ _ _ _ _ => ets_nil) (fun _ _ _ _ _ => (ev_tup (ea_cons (ev_var 8) (ea_cons (ev_var 9) ea_nil)))))) ea_nil))))))) svs_nil)
    (svs_one (sv_ret (ev_frz (ev_move 4)))))))))))⟩

/-! _law_sayings -/
abbrev s__law_sayings : Stmt := topS 22
theorem sc__law_sayings : FnScope ["_law_feed_here", "_law_line", "_law_found", "_law_pair", "_law_turn"] ["_law_feed_here", "_law_line"] (defScope s__law_sayings) := ⟨rfl, rfl, rfl, by decide +kernel, rfl, by decide +kernel, by decide +kernel⟩
def m__law_sayings : MS :=
  (mSeq (mSet 2 (mLst mNil))
  (mSeq (mLoop (kName 3) (mLoop (kName 4) (mDrop (mMtL 2 insertD (mCons (mCall1 0 1 g__law_draw (mCons (mOp2 addD (mV (mOpN (one lenD) (mOCons (mS 2) mONil))) (mV (mC (.int 1)))) mNil)) (mCons (mVar 3) mNil)))) (mR1 (mCons (mOp2 addD (mV (mC (.int 1))) (mV (mOpN (one intD) (mOCons (mV (mOp2 eqD (mV (mCall1 0 1 g__law_draw (mCons (mC (.int 8)) mNil))) (mV (mC (.int 0))))) mONil)))) mNil))) (mLs (mCall1 0 1 g__law_pairs (mCons (mVar 1) mNil))))
  (mRet (mOp1 tupleD (mV (mSl cutD (mS 2) mNoPart (mPart (mC (.int 60)))))))))
def g__law_sayings : List D → R D := fun ds => (runF 5 1 m__law_sayings ds).noEx
theorem fn__law_sayings {f : Addr} {fd : FuncData} (G : L2.Fun K "_law_sayings" "_law_sayings" s__law_sayings f fd) (gs : Gs mg) (c__law_draw : Clp P w K mg base CX0 1 "_law_draw" 2 ((.dic .leaf) :: leaves 1) 1 .leaf g__law_draw) (c__law_pairs : Clp P w K mg base CX0 2 "_law_pairs" 2 ((.dic .leaf) :: leaves 1) 1 .leaf g__law_pairs) : FnG P w K mg base CX0 3 f fd ["_law_feed_here", "_law_line"] (spV K mg 2 ((.dic .leaf) :: leaves 1) 1 .leaf g__law_sayings) := by
  refine Fun.okG (k := 2) (n := 2) (psh := ((.dic .leaf) :: leaves 1)) (lsh := [(.lst .leaf), .leaf, .leaf]) (fx := 1) (rsh := .leaf) (m := m__law_sayings) G sc__law_sayings rfl rfl rfl (by decide) (.inl rfl) fun X h1 h2 h3 h4 h5 h6 h7 h8 h9 henv hr hgd => ?_
  obtain ⟨xP, xw, xK, xmg, xb, xA, xN, xs, xH, xe, xo, xst, xex, xfn, xc, xpn, xx⟩ := X
  obtain ⟨xL, xf, xcd, henv⟩ := henv
  dsimp only at h1 h2 h3 h4 h5 h6 h7 h8 h9 henv hr hgd
  subst h1 h2 h3 h4 h5 h6 h7 h8 h9 henv
  exact ⟨_, (svs_cons (sv_set (i := 2) rfl (by decide) sc__law_sayings.nd rfl (by first | exact .inl rfl | exact .inr rfl) (ev_lst ea_nil))
    (svs_cons (sv_for PassesOwn.never rfl (kv_list xK rfl (kv_call1 xK rfl xmg rfl 0 (c__law_pairs.cl (by decide) rfl rfl rfl rfl rfl) px0 hr hgd (ea_cons (ev_var 1) ea_nil))) (gv_name sc__law_sayings.nd (i := 3) rfl (by first | exact .inl rfl | exact .inr rfl) rfl (fun σ x => tk_set (by decide) σ x)) (svs_one (sv_for PassesOwn.never rfl (iv_rng1 (ea_cons (ev_op (k_add xK rfl) (s_add (K := xK)) (eo_of ev_int) (eo_of (ev_callT call_int1 s_int (eos_cons (eo_of (ev_cmp (k_eq xK rfl (hu65 hr)) (s_eq (K := xK)) (eo_of (kv_call1 xK rfl xmg rfl 0 (c__law_draw.cl (by decide) rfl rfl rfl rfl rfl) px0 hr hgd (ea_cons ev_int ea_nil))) (eo_of ev_int) (by first | exact nomark _ | rfl))) eos_nil) gs.b_int bt_int))) ea_nil) gs.b_range) (gv_name sc__law_sayings.nd (i := 4) rfl (by first | exact .inl rfl | exact .inr rfl) rfl (fun σ x => tk_set (by decide) σ x)) (svs_one (sv_expr (ev_mtL 2 PySem.F.slot_list_insert PySem.F.type_list_insert mt_insert m_insert (ea_cons (kv_call1 xK rfl xmg rfl 0 (c__law_draw.cl (by decide) rfl rfl rfl rfl rfl) px0 hr hgd (ea_cons (ev_op (k_add xK rfl) (s_add (K := xK)) (eo_of (ev_callB (k_len xK rfl) (s_len (K := xK)) (eos_cons (eo_own 2) eos_nil) gs.b_len bt_len)) (eo_of ev_int)) ea_nil)) (ea_cons (ev_var 3) ea_nil))))))))
    (svs_one (sv_ret (kv_tupleOf xK rfl (eo_of (ev_slice (k_sl xK rfl) (s_sl (K := xK)) (eo_own 2) ept_none (ept_some ev_int))) gs.b_tuple)))))⟩

/-! _law_half -/
abbrev s__law_half : Stmt := topS 23
theorem sc__law_half : FnScope ["_law_feed_here", "_law_most", "_law_names_here"] ["_law_feed_here", "_law_most"] (defScope s__law_half) := ⟨rfl, rfl, rfl, by decide +kernel, rfl, by decide +kernel, by decide +kernel⟩
def m__law_half : MS :=
  (mSeq (mSet 2 (mCall1 0 1 g__law_names (mCons (mCall1 0 1 g__law_draw (mCons (mOp2 addD (mV (mVar 1)) (mV (mC (.int 1)))) mNil)) mNil)))
  (mRet (mTup (mCons (mOp1 tupleD (mV (mVar 2))) (mCons (mCall1 0 1 g__law_sayings (mCons (mCall1 0 1 g__law_shuffled (mCons (mVar 2) mNil)) mNil)) mNil)))))
def g__law_half : List D → R D := fun ds => (runF 3 1 m__law_half ds).noEx
theorem fn__law_half {f : Addr} {fd : FuncData} (G : L2.Fun K "_law_half" "_law_half" s__law_half f fd) (gs : Gs mg) (c__law_draw : Clp P w K mg base CX0 1 "_law_draw" 2 ((.dic .leaf) :: leaves 1) 1 .leaf g__law_draw) (c__law_names : Clp P w K mg base CX0 2 "_law_names" 2 ((.dic .leaf) :: leaves 1) 1 .leaf g__law_names) (c__law_sayings : Clp P w K mg base CX0 3 "_law_sayings" 2 ((.dic .leaf) :: leaves 1) 1 .leaf g__law_sayings) (c__law_shuffled : Clp P w K mg base CX0 2 "_law_shuffled" 2 ((.dic .leaf) :: leaves 1) 1 .leaf g__law_shuffled) : FnG P w K mg base CX0 4 f fd ["_law_feed_here", "_law_most"] (spV K mg 2 ((.dic .leaf) :: leaves 1) 1 .leaf g__law_half) := by
  refine Fun.okG (k := 3) (n := 2) (psh := ((.dic .leaf) :: leaves 1)) (lsh := [.leaf]) (fx := 1) (rsh := .leaf) (m := m__law_half) G sc__law_half rfl rfl rfl (by decide) (.inl rfl) fun X h1 h2 h3 h4 h5 h6 h7 h8 h9 henv hr hgd => ?_
  obtain ⟨xP, xw, xK, xmg, xb, xA, xN, xs, xH, xe, xo, xst, xex, xfn, xc, xpn, xx⟩ := X
  obtain ⟨xL, xf, xcd, henv⟩ := henv
  dsimp only at h1 h2 h3 h4 h5 h6 h7 h8 h9 henv hr hgd
  subst h1 h2 h3 h4 h5 h6 h7 h8 h9 henv
  exact ⟨_, (svs_cons (sv_set (i := 2) rfl (by decide) sc__law_half.nd rfl (by first | exact .inl rfl | exact .inr rfl) (kv_call1 xK rfl xmg rfl 0 (c__law_names.cl (by decide) rfl rfl rfl rfl rfl) px0 hr hgd (ea_cons (kv_call1 xK rfl xmg rfl 0 (c__law_draw.cl (by decide) rfl rfl rfl rfl rfl) px0 hr hgd (ea_cons (ev_op (k_add xK rfl) (s_add (K := xK)) (eo_of (ev_var 1)) (eo_of ev_int)) ea_nil)) ea_nil)))
    (svs_one (sv_ret (ev_tup (ea_cons (kv_tupleOf xK rfl (eo_of (ev_var 2)) gs.b_tuple) (ea_cons (kv_call1 xK rfl xmg rfl 0 (c__law_sayings.cl (by decide) rfl rfl rfl rfl rfl) px0 hr hgd (ea_cons (kv_call1 xK rfl xmg rfl 0 (c__law_shuffled.cl (by decide) rfl rfl rfl rfl rfl) px0 hr hgd (ea_cons (ev_var 2) ea_nil)) ea_nil)) ea_nil))))))⟩

/-! _law_tale -/
abbrev s__law_tale : Stmt := topS 24
theorem sc__law_tale : FnScope ["_law_feed_here", "_law_most", "_law_names_here", "_law_sayings_here", "_law_at", "_law_one", "_law_other"] ["_law_feed_here", "_law_most"] (defScope s__law_tale) := ⟨rfl, rfl, rfl, by decide +kernel, rfl, by decide +kernel, by decide +kernel⟩
def m__law_tale : MS :=
  (mSeq (mAsg (kTup' 2 (kCons (kName 2) (kCons (kName 3) kNil))) (mCall1 0 1 g__law_half (mCons (mVar 1) mNil)))
  (mSeq (mIfS (mAnd (mTest (mOp2 gtD (mV (mOpN (one lenD) (mOCons (mV (mVar 2)) mONil))) (mV (mC (.int 0))))) (mTest (mOp2 eqD (mV (mCall1 0 1 g__law_draw (mCons (mC (.int 2)) mNil))) (mV (mC (.int 0)))))) (mSeq (mSet 4 (mCall1 0 1 g__law_draw (mCons (mOp2 addD (mV (mOpN (one lenD) (mOCons (mV (mVar 3)) mONil))) (mV (mC (.int 1)))) mNil)))
  (mSeq (mSet 5 (mOp2 ixD (mV (mVar 2)) (mV (mCall1 0 1 g__law_draw (mCons (mOpN (one lenD) (mOCons (mV (mVar 2)) mONil)) mNil)))))
  (mSeq (mSet 6 (mOp2 ixD (mV (mVar 2)) (mV (mCall1 0 1 g__law_draw (mCons (mOpN (one lenD) (mOCons (mV (mVar 2)) mONil)) mNil)))))
  (mSet 3 (mOp2 addD (mV (mOp2 addD (mV (mSl cutD (mV (mVar 3)) mNoPart (mPart (mVar 4)))) (mV (mTup (mCons (mTup (mCons (mVar 5) (mCons (mVar 6) mNil))) mNil))))) (mV (mSl cutD (mV (mVar 3)) (mPart (mVar 4)) mNoPart))))))) mNx)
  (mRet (mTup (mCons (mVar 2) (mCons (mSl cutD (mV (mVar 3)) mNoPart (mPart (mC (.int 60)))) mNil))))))
def g__law_tale : List D → R D := fun ds => (runF 7 1 m__law_tale ds).noEx
theorem fn__law_tale {f : Addr} {fd : FuncData} (G : L2.Fun K "_law_tale" "_law_tale" s__law_tale f fd) (gs : Gs mg) (c__law_draw : Clp P w K mg base CX0 1 "_law_draw" 2 ((.dic .leaf) :: leaves 1) 1 .leaf g__law_draw) (c__law_half : Clp P w K mg base CX0 4 "_law_half" 2 ((.dic .leaf) :: leaves 1) 1 .leaf g__law_half) : FnG P w K mg base CX0 5 f fd ["_law_feed_here", "_law_most"] (spV K mg 2 ((.dic .leaf) :: leaves 1) 1 .leaf g__law_tale) := by
  refine Fun.okG (k := 4) (n := 2) (psh := ((.dic .leaf) :: leaves 1)) (lsh := [.leaf, .leaf, .leaf, .leaf, .leaf]) (fx := 1) (rsh := .leaf) (m := m__law_tale) G sc__law_tale rfl rfl rfl (by decide) (.inl rfl) fun X h1 h2 h3 h4 h5 h6 h7 h8 h9 henv hr hgd => ?_
  obtain ⟨xP, xw, xK, xmg, xb, xA, xN, xs, xH, xe, xo, xst, xex, xfn, xc, xpn, xx⟩ := X
  obtain ⟨xL, xf, xcd, henv⟩ := henv
  dsimp only at h1 h2 h3 h4 h5 h6 h7 h8 h9 henv hr hgd
  subst h1 h2 h3 h4 h5 h6 h7 h8 h9 henv
  exact ⟨_, (svs_cons (sv_asg (kv_call1 xK rfl xmg rfl 0 (c__law_half.cl (by decide) rfl rfl rfl rfl rfl) px0 hr hgd (ea_cons (ev_var 1) ea_nil)) (kv_gtup xK rfl rfl (n := 2) (gvs_cons (tk_rel _) (gv_name sc__law_tale.nd (i := 2) rfl (by first | exact .inl rfl | exact .inr rfl) rfl (fun σ x => tk_set (by decide) σ x)) (gvs_cons (tk_rel _) (gv_name sc__law_tale.nd (i := 3) rfl (by first | exact .inl rfl | exact .inr rfl) rfl (fun σ x => tk_set (by decide) σ x)) (gvs_nil (tk_rel _))))))
    (svs_cons (sv_if (et_w (ew_and (et_cmp op_gt s_b (eo_of (ev_callB (k_len xK rfl) (s_len (K := xK)) (eos_cons (eo_of (ev_var 2)) eos_nil) gs.b_len bt_len)) (eo_of ev_int) (by first | exact nomark _ | rfl)) (ew_and1 (et_cmp (k_eq xK rfl (hu65 hr)) (s_eq (K := xK)) (eo_of (kv_call1 xK rfl xmg rfl 0 (c__law_draw.cl (by decide) rfl rfl rfl rfl rfl) px0 hr hgd (ea_cons ev_int ea_nil))) (eo_of ev_int) (by first | exact nomark _ | rfl))))) (svs_cons (sv_set (i := 4) rfl (by decide) sc__law_tale.nd rfl (by first | exact .inl rfl | exact .inr rfl) (kv_call1 xK rfl xmg rfl 0 (c__law_draw.cl (by decide) rfl rfl rfl rfl rfl) px0 hr hgd (ea_cons (ev_op (k_add xK rfl) (s_add (K := xK)) (eo_of (ev_callB (k_len xK rfl) (s_len (K := xK)) (eos_cons (eo_of (ev_var 3)) eos_nil) gs.b_len bt_len)) (eo_of ev_int)) ea_nil)))
    (svs_cons (sv_set (i := 5) rfl (by decide) sc__law_tale.nd rfl (by first | exact .inl rfl | exact .inr rfl) (ev_ix (k_ix xK rfl (hu1 hr)) (s_ix (K := xK)) (eo_of (ev_var 2)) (eo_of (kv_call1 xK rfl xmg rfl 0 (c__law_draw.cl (by decide) rfl rfl rfl rfl rfl) px0 hr hgd (ea_cons (ev_callB (k_len xK rfl) (s_len (K := xK)) (eos_cons (eo_of (ev_var 2)) eos_nil) gs.b_len bt_len) ea_nil)))))
    (svs_cons (sv_set (i := 6) rfl (by decide) sc__law_tale.nd rfl (by first | exact .inl rfl | exact .inr rfl) (ev_ix (k_ix xK rfl (hu1 hr)) (s_ix (K := xK)) (eo_of (ev_var 2)) (eo_of (kv_call1 xK rfl xmg rfl 0 (c__law_draw.cl (by decide) rfl rfl rfl rfl rfl) px0 hr hgd (ea_cons (ev_callB (k_len xK rfl) (s_len (K := xK)) (eos_cons (eo_of (ev_var 2)) eos_nil) gs.b_len bt_len) ea_nil)))))
    (svs_one (sv_set (i := 3) rfl (by decide) sc__law_tale.nd rfl (by first | exact .inl rfl | exact .inr rfl) (ev_op (k_add xK rfl) (s_add (K := xK)) (eo_of (ev_op (k_add xK rfl) (s_add (K := xK)) (eo_of (ev_slice (k_sl xK rfl) (s_sl (K := xK)) (eo_of (ev_var 3)) ept_none (ept_some (ev_var 4)))) (eo_of (ev_tup (ea_cons (ev_tup (ea_cons (ev_var 5) (ea_cons (ev_var 6) ea_nil))) ea_nil))))) (eo_of (ev_slice (k_sl xK rfl) (s_sl (K := xK)) (eo_of (ev_var 3)) (ept_some (ev_var 4)) ept_none)))))))) svs_nil)
    (svs_one (sv_ret (ev_tup (ea_cons (ev_var 2) (ea_cons (ev_slice (k_sl xK rfl) (s_sl (K := xK)) (eo_of (ev_var 3)) ept_none (ept_some ev_int)) ea_nil)))))))⟩

/-! _law_lines -/
abbrev s__law_lines : Stmt := topS 25
theorem sc__law_lines : FnScope ["_law_tale_here", "_law_rows", "_law_one", "_law_other"] ["_law_tale_here"] (defScope s__law_lines) := ⟨rfl, rfl, rfl, by decide +kernel, rfl, by decide +kernel, by decide +kernel⟩
def m__law_lines : MS :=
  (mSeq (mSet 1 (mLst (mCons (mM1 joinD (mC (.str " ")) (mV (mOp2 addD (mV (mLst (mCons (mC (.str "names")) mNil))) (mV (mOpN (one listD) (mOCons (mV (mOp2 ixD (mV (mVar 0)) (mV (mC (.int 0))))) mONil)))))) mNil)))
  (mRet (mOp2 addD (mV (mVar 1)) (mV (mLc (mTs (mOp2 ixD (mV (mVar 0)) (mV (mC (.int 1))))) (kTup' 2 (kCons (kName 2) (kCons (kName 3) kNil))) mYes (mOp2 addD (mV (mOp2 addD (mV (mOp2 addD (mV (mC (.str "ahead "))) (mV (mVar 2)))) (mV (mC (.str " "))))) (mV (mVar 3))) [2, 3])))))
def g__law_lines : List D → R D := fun ds => (runF 4 0 m__law_lines ds).noEx
theorem fn__law_lines {f : Addr} {fd : FuncData} (G : L2.Fun K "_law_lines" "_law_lines" s__law_lines f fd) (gs : Gs mg) : FnG P w K mg base CX0 1 f fd ["_law_tale_here"] (spV K mg 1 (leaves 1) 0 .leaf g__law_lines) := by
  refine Fun.okG (k := 0) (n := 1) (psh := (leaves 1)) (lsh := [.leaf, .leaf, .leaf]) (fx := 0) (rsh := .leaf) (m := m__law_lines) G sc__law_lines rfl rfl rfl (by decide) (.inl rfl) fun X h1 h2 h3 h4 h5 h6 h7 h8 h9 henv hr hgd => ?_
  obtain ⟨xP, xw, xK, xmg, xb, xA, xN, xs, xH, xe, xo, xst, xex, xfn, xc, xpn, xx⟩ := X
  obtain ⟨xL, xf, xcd, henv⟩ := henv
  dsimp only at h1 h2 h3 h4 h5 h6 h7 h8 h9 henv hr hgd
  subst h1 h2 h3 h4 h5 h6 h7 h8 h9 henv
  exact ⟨_, (svs_cons (sv_set (i := 1) rfl (by decide) sc__law_lines.nd rfl (by first | exact .inl rfl | exact .inr rfl) (ev_frz (ev_lst (ea_cons (ev_m1 PySem.F.slot_str_join PySem.F.type_str_join (k_join xK rfl) (s_join (K := xK)) hq_join ev_str (eo_of (ev_op (k_add xK rfl) (s_add (K := xK)) (eo_of (ev_frz (ev_lst (ea_cons ev_str ea_nil)))) (eo_of (ev_frz (ev_callT (k_listOf xK rfl) (s_listOf (K := xK)) (eos_cons (eo_of (ev_ix (k_ix xK rfl (hu1 hr)) (s_ix (K := xK)) (eo_of (ev_var 0)) (eo_of ev_int))) eos_nil) gs.b_list bt_list)))))) ea_nil))))
    (svs_one (sv_ret (ev_op (k_add xK rfl) (s_add (K := xK)) (eo_of (ev_var 1)) (eo_of (ev_frz (ev_lc (own := [("_law_one", 2), ("_law_other", 3)]) rfl sc__law_lines.nd (kv_tup xK rfl (ev_ix (k_ix xK rfl (hu1 hr)) (s_ix (K := xK)) (eo_of (ev_var 0)) (eo_of ev_int))) (blkOk_by (N := ["_law_tale_here", "_law_rows", "_law_one", "_law_other"]) (sc := defScope s__law_lines) (own := [("_law_one", 2), ("_law_other", 3)]) (by decide +kernel)) (by decide) (hk2 rfl rfl) (fun _ _ _ _ _ => (kv_gtup xK rfl rfl (n := 2) (gvs_cons (tw_rel _) (gv_name sc__law_lines.nd (i := 2) rfl (by first | exact .inl rfl | exact .inr rfl) rfl (fun σ x => tw_set (by decide) σ x)) (gvs_cons (tw_rel _) (gv_name sc__law_lines.nd (i := 3) rfl (by first | exact .inl rfl | exact .inr rfl) rfl (fun σ x => tw_set (by decide) σ x)) (gvs_nil (tw_rel _)))))) (fun _ _ _ _ _ => ets_nil) (fun _ _ _ _ _ => (ev_op (k_add xK rfl) (s_add (K := xK)) (eo_of (ev_op (k_add xK rfl) (s_add (K := xK)) (eo_of (ev_op (k_add xK rfl) (s_add (K := xK)) (eo_of ev_str) (eo_of (ev_var 2)))) (eo_of ev_str))) (eo_of (ev_var 3)))))))))))⟩

/-! law -/
abbrev s_law : Stmt := topS 26
theorem sc_law : FnScope ["_law_script", "_law_feed_here", "_law_k", "_law_tales", "_law_turn", "_law_tale_here", "_law_kept", "_law_due", "_law_found", "_law_handed"] ["_law_script"] (defScope s_law) := ⟨rfl, rfl, rfl, by decide +kernel, rfl, by decide +kernel, by decide +kernel⟩
def m_law : MS :=
  (mSeq (mSet 1 (mCall0 1 g__law_feed (mCons (mVar 0) mNil)))
  (mSeq (mLoop (kName 2) (mSeq (mSet 3 (mLst (mCons (mCall1 1 1 g__law_tale (mCons (mC (.int 10)) mNil)) (mCons (mCall1 1 1 g__law_tale (mCons (mC (.int 10)) mNil)) mNil))))
  (mLoop (kName 4) (mSeq (mSet 5 (mOp2 ixD (mV (mVar 3)) (mV (mOp2 modD (mV (mVar 4)) (mV (mC (.int 2)))))))
  (mSeq (mSet 6 (mOpN (one reprD) (mOCons (mV (mVar 5)) mONil)))
  (mSeq (mSet 7 (mCall0 1 g__law_lines (mCons (mVar 5) mNil)))
  (mSeq (mSet 8 (mCall0 1 g_tale_lines (mCons (mVar 5) mNil)))
  (mSeq (mIfS (mOr (mNot (mTest (mOpN (two isiD) (mOCons (mS 8) (mOCons (mV (mC (.ty "list"))) mONil))))) (mOr (mTest (mOp2 neD (mS 8) (mV (mVar 7)))) (mTest (mOp2 neD (mV (mOpN (one reprD) (mOCons (mV (mVar 5)) mONil))) (mV (mVar 6)))))) (mRet (mC (.bl false))) mNx)
  (mSeq (mDrop (mMtL 8 appendD (mCons (mC (.str "ahead")) mNil)))
  (mSeq (mSet 9 (mOpN (one listD) (mOCons (mV (mVar 7)) mONil)))
  (mIfS (mOr (mTest (mOp2 neD (mV (mOpN (one reprD) (mOCons (mV (mCall0 1 g_read_tale (mCons (mVar 9) mNil))) mONil))) (mV (mVar 6)))) (mTest (mOp2 neD (mV (mVar 9)) (mV (mVar 7))))) (mRet (mC (.bl false))) mNx)))))))) (mR1 (mCons (mC (.int 4)) mNil)))) (mR1 (mCons (mC (.int 4)) mNil)))
  (mRet (mAndV (mOp2 eqD (mV (mCall0 1 g_tale_lines (mCons (mTup (mCons (mTup mNil) (mCons (mTup mNil) mNil))) mNil))) (mV (mLst (mCons (mC (.str "names")) mNil)))) (mOp2 eqD (mV (mOpN (one reprD) (mOCons (mV (mCall0 1 g_read_tale (mCons (mLst (mCons (mC (.str "names")) mNil)) mNil))) mONil))) (mV (mC (.str "((), ())"))))))))
def g_law : List D → R D := fun ds => (runF 10 0 m_law ds).noEx
theorem fn_law {f : Addr} {fd : FuncData} (G : L2.Fun K "law" "law" s_law f fd) (gs : Gs mg) (c__law_feed : Clp P w K mg base CX0 1 "_law_feed" 1 (leaves 1) 0 (.dic .leaf) g__law_feed) (c__law_lines : Clp P w K mg base CX0 1 "_law_lines" 1 (leaves 1) 0 .leaf g__law_lines) (c__law_tale : Clp P w K mg base CX0 5 "_law_tale" 2 ((.dic .leaf) :: leaves 1) 1 .leaf g__law_tale) (c_read_tale : Clp P w K mg base CX0 3 "read_tale" 1 (leaves 1) 0 .leaf g_read_tale) (c_tale_lines : Clp P w K mg base CX0 1 "tale_lines" 1 (leaves 1) 0 (.lst .leaf) g_tale_lines) : FnG P w K mg base CX0 6 f fd ["_law_script"] (spV K mg 1 (leaves 1) 0 .leaf g_law) := by
  refine Fun.okG (k := 5) (n := 1) (psh := (leaves 1)) (lsh := [(.dic .leaf), .leaf, .leaf, .leaf, .leaf, .leaf, .leaf, (.lst .leaf), .leaf]) (fx := 0) (rsh := .leaf) (m := m_law) G sc_law rfl rfl rfl (by decide) (.inl rfl) fun X h1 h2 h3 h4 h5 h6 h7 h8 h9 henv hr hgd => ?_
  obtain ⟨xP, xw, xK, xmg, xb, xA, xN, xs, xH, xe, xo, xst, xex, xfn, xc, xpn, xx⟩ := X
  obtain ⟨xL, xf, xcd, henv⟩ := henv
  dsimp only at h1 h2 h3 h4 h5 h6 h7 h8 h9 henv hr hgd
  subst h1 h2 h3 h4 h5 h6 h7 h8 h9 henv
  exact ⟨_, (svs_cons (sv_set (i := 1) rfl (by decide) sc_law.nd rfl (by first | exact .inl rfl | exact .inr rfl) (kv_call0 xK rfl xmg rfl (c__law_feed.cl (by decide) rfl rfl rfl rfl rfl) px0 hr hgd (ea_cons (ev_var 0) ea_nil)))
    (svs_cons (sv_for PassesOwn.never rfl (iv_rng1 (ea_cons ev_int ea_nil) gs.b_range) (gv_name sc_law.nd (i := 2) rfl (by first | exact .inl rfl | exact .inr rfl) rfl (fun σ x => tk_set (by decide) σ x)) (svs_cons (sv_set (i := 3) rfl (by decide) sc_law.nd rfl (by first | exact .inl rfl | exact .inr rfl) (ev_frz (ev_lst (ea_cons (kv_call1 xK rfl xmg rfl 1 (c__law_tale.cl (by decide) rfl rfl rfl rfl rfl) px0 hr hgd (ea_cons ev_int ea_nil)) (ea_cons (kv_call1 xK rfl xmg rfl 1 (c__law_tale.cl (by decide) rfl rfl rfl rfl rfl) px0 hr hgd (ea_cons ev_int ea_nil)) ea_nil)))))
    (svs_one (sv_for PassesOwn.never rfl (iv_rng1 (ea_cons ev_int ea_nil) gs.b_range) (gv_name sc_law.nd (i := 4) rfl (by first | exact .inl rfl | exact .inr rfl) rfl (fun σ x => tk_set (by decide) σ x)) (svs_cons (sv_set (i := 5) rfl (by decide) sc_law.nd rfl (by first | exact .inl rfl | exact .inr rfl) (ev_ix (k_ix xK rfl (hu1 hr)) (s_ix (K := xK)) (eo_of (ev_var 3)) (eo_of (ev_op op_mod s_mod (eo_of (ev_var 4)) (eo_of ev_int)))))
    (svs_cons (sv_set (i := 6) rfl (by decide) sc_law.nd rfl (by first | exact .inl rfl | exact .inr rfl) (ev_callB (k_repr xK rfl hgd (hu65 hr)) (s_repr (K := xK)) (eos_cons (eo_of (ev_var 5)) eos_nil) gs.b_repr bt_repr))
    (svs_cons (sv_set (i := 7) rfl (by decide) sc_law.nd rfl (by first | exact .inl rfl | exact .inr rfl) (kv_call0 xK rfl xmg rfl (c__law_lines.cl (by decide) rfl rfl rfl rfl rfl) px0 hr hgd (ea_cons (ev_var 5) ea_nil)))
    (svs_cons (sv_set (i := 8) rfl (by decide) sc_law.nd rfl (by first | exact .inl rfl | exact .inr rfl) (kv_call0 xK rfl xmg rfl (c_tale_lines.cl (by decide) rfl rfl rfl rfl rfl) px0 hr hgd (ea_cons (ev_var 5) ea_nil)))
    (svs_cons (sv_if (et_w (ew_or (et_not (et_val (ev_callB (k_isi xK rfl) (s_isi (K := xK)) (eos_cons (eo_own 8) (eos_cons (eo_of (ev_ty gs.b_list bt_list)) eos_nil)) gs.b_isinstance bt_isinstance))) (ew_or (et_cmp (k_ne xK rfl (hu65 hr)) (s_ne (K := xK)) (eo_own 8) (eo_of (ev_var 7)) (by first | exact nomark _ | rfl)) (ew_or1 (et_cmp (k_ne xK rfl (hu65 hr)) (s_ne (K := xK)) (eo_of (ev_callB (k_repr xK rfl hgd (hu65 hr)) (s_repr (K := xK)) (eos_cons (eo_of (ev_var 5)) eos_nil) gs.b_repr bt_repr)) (eo_of (ev_var 6)) (by first | exact nomark _ | rfl)))))) (svs_one (sv_ret ev_bl)) svs_nil)
    (svs_cons (sv_expr (ev_mtL 8 PySem.F.slot_list_append PySem.F.type_list_append mt_append m_append (ea_cons ev_str ea_nil)))
    (svs_cons (sv_set (i := 9) rfl (by decide) sc_law.nd rfl (by first | exact .inl rfl | exact .inr rfl) (ev_frz (ev_callT (k_listOf xK rfl) (s_listOf (K := xK)) (eos_cons (eo_of (ev_var 7)) eos_nil) gs.b_list bt_list)))
    (svs_one (sv_if (et_w (ew_or (et_cmp (k_ne xK rfl (hu65 hr)) (s_ne (K := xK)) (eo_of (ev_callB (k_repr xK rfl hgd (hu65 hr)) (s_repr (K := xK)) (eos_cons (eo_of (kv_call0 xK rfl xmg rfl (c_read_tale.cl (by decide) rfl rfl rfl rfl rfl) px0 hr hgd (ea_cons (ev_var 9) ea_nil))) eos_nil) gs.b_repr bt_repr)) (eo_of (ev_var 6)) (by first | exact nomark _ | rfl)) (ew_or1 (et_cmp (k_ne xK rfl (hu65 hr)) (s_ne (K := xK)) (eo_of (ev_var 9)) (eo_of (ev_var 7)) (by first | exact nomark _ | rfl))))) (svs_one (sv_ret ev_bl)) svs_nil)))))))))))))
    (svs_one (sv_ret (ev_and (ev_cmp (k_eq xK rfl (hu65 hr)) (s_eq (K := xK)) (eo_of (ev_frz (kv_call0 xK rfl xmg rfl (c_tale_lines.cl (by decide) rfl rfl rfl rfl rfl) px0 hr hgd (ea_cons (ev_tup (ea_cons (ev_tup ea_nil) (ea_cons (ev_tup ea_nil) ea_nil))) ea_nil)))) (eo_of (ev_frz (ev_lst (ea_cons ev_str ea_nil)))) (by first | exact nomark _ | rfl)) (ev_one (ev_cmp (k_eq xK rfl (hu65 hr)) (s_eq (K := xK)) (eo_of (ev_callB (k_repr xK rfl hgd (hu65 hr)) (s_repr (K := xK)) (eos_cons (eo_of (kv_call0 xK rfl xmg rfl (c_read_tale.cl (by decide) rfl rfl rfl rfl rfl) px0 hr hgd (ea_cons (ev_frz (ev_lst (ea_cons ev_str ea_nil))) ea_nil))) eos_nil) gs.b_repr bt_repr)) (eo_of ev_str) (by first | exact nomark _ | rfl))))))))⟩

end
/-! ### the law's feed -/
def feedD (cs : List D) (a l t : Int) : D := .dK [(.inr "cells", .lst cs), (.inr "at", .int a), (.inr "left", .int l), (.inr "turn", .int t)]
structure Feed (d : D) : Prop where
  ex : ∃ cs a l t, d = feedD cs a l t ∧ cs ≠ [] ∧ cs.length ≤ 100 ∧ ∀ x ∈ cs, ∃ i, x = .int i
section
variable (cs : List D) (a l t v : Int)
theorem fx_cells : ixD (feedD cs a l t) (.str "cells") = some (.lst cs) := rfl
theorem fx_at : ixD (feedD cs a l t) (.str "at") = some (.int a) := rfl
theorem fx_left : ixD (feedD cs a l t) (.str "left") = some (.int l) := rfl
theorem fx_turn : ixD (feedD cs a l t) (.str "turn") = some (.int t) := rfl
theorem fp_at : putD (feedD cs a l t) (.str "at") (.int v) = some (feedD cs v l t) := rfl
theorem fp_left : putD (feedD cs a l t) (.str "left") (.int v) = some (feedD cs a v t) := rfl
theorem fp_turn : putD (feedD cs a l t) (.str "turn") (.int v) = some (feedD cs a l v) := rfl
end
theorem atI_in {α : Type} {xs : List α} {i : Int} (h0 : 0 ≤ i) (h1 : i < xs.length) : ∃ x, atI xs i = some x ∧ x ∈ xs := by
  have e : i = ((i.toNat : Nat) : Int) := by omega
  have h : i.toNat < xs.length := by omega
  refine ⟨xs[i.toNat], ?_, List.getElem_mem h⟩
  have q := atI_nat (List.getElem?_eq_getElem h)
  rwa [← e] at q
theorem mulOkR {i j : Int} (h : -(2 ^ 64) < j ∧ j < 2 ^ 64) : mulOk i j = true := by
  unfold mulOk
  rw [decide_eq_true h, Bool.or_true, Bool.true_or]
theorem mulOkL {i j : Int} (h : -(2 ^ 64) < i ∧ i < 2 ^ 64) : mulOk i j = true := by
  unfold mulOk
  rw [decide_eq_true h, Bool.true_or, Bool.true_or]
theorem draw_ok {d : D} {n : Int} (hd : Feed d) (h0 : 0 < n) (h1 : n < 10 ^ 30) : ∃ r d', g__law_draw [d, .int n] = .ok (.int r) [some d'] ∧ Feed d' ∧ 0 ≤ r ∧ r < n := by
  obtain ⟨cs, a, l, t, rfl, hne, hlen, hint⟩ := hd.ex
  have hpos0 : 0 < cs.length := List.length_pos_iff.mpr hne
  have hpos : 0 < (cs.length : Int) := by omega
  obtain ⟨c, hc, cm⟩ := atI_in (xs := cs) (Int.emod_nonneg a (by omega)) (Int.emod_lt_of_pos a hpos)
  obtain ⟨ci, rfl⟩ := hint c cm
  have mk : ∀ a l t, Feed (feedD cs a l t) := fun a l t => ⟨cs, a, l, t, rfl, hne, hlen, hint⟩
  have hixc : ixD (.lst cs) (.int (a % (cs.length : Int))) = some (.int ci) := hc
  have hm : ∀ i j : Int, -(2 ^ 64) < j ∧ j < 2 ^ 64 → mulOk i j = true := fun i j h => mulOkR h
  have hm' : ∀ i j : Int, -(2 ^ 64) < i ∧ i < 2 ^ 64 → mulOk i j = true := fun i j h => mulOkL h
  have m1 := hm' 1013 (t + 1) (by decide)
  have m2 := hm (ci % 2147483629 + 1013 * (t + 1)) 48271 (by decide)
  have m3 := hm' 37 (t + 1) (by decide)
  have h1' : n < 1000000000000000000000000000000 := h1
  by_cases hl : l = 0
  · by_cases hb : ci < 1000000000000000000
    · let x := (ci % 2147483629 + 1013 * (t + 1)) * 48271 % 2147483647
      let y := (x / 13 + 37 * (t + 1)) * 69621 % 2147483587
      have m4 := hm (x / 13 + 37 * (t + 1)) 69621 (by decide)
      refine ⟨y / 7 % n, feedD cs (a + 1) l (t + 1), ?_, mk _ _ _, Int.emod_nonneg _ (by omega), Int.emod_lt_of_pos _ h0⟩
      simp only [x] at m4
      simp [g__law_draw, m__law_draw, fx_cells, fx_at, fx_left, fx_turn, fp_at, fp_left, fp_turn, lenD, hl, hpos0, hpos, hixc, hb, m1, m2, m3, m4, h0, h1, h1', x, y, R.noEx]
    · refine ⟨ci % n, feedD cs (a + 1) (ci / n) (t + 1), ?_, mk _ _ _, Int.emod_nonneg _ (by omega), Int.emod_lt_of_pos _ h0⟩
      simp [g__law_draw, m__law_draw, fx_cells, fx_at, fx_left, fx_turn, fp_at, fp_left, fp_turn, lenD, hl, hpos0, hpos, hixc, hb, h0, h1, h1', R.noEx]
  · refine ⟨l % n, feedD cs a (l / n) (t + 1), ?_, mk _ _ _, Int.emod_nonneg _ (by omega), Int.emod_lt_of_pos _ h0⟩
    simp [g__law_draw, m__law_draw, fx_cells, fx_at, fx_left, fx_turn, fp_at, fp_left, fp_turn, lenD, hl, h0, h1, h1', R.noEx]
theorem eq_nil (ms : List Int) : eqD (.scr ms) (.lst []) = some (.bl (decide (ms = []))) := by
  have h : eqOk (.scr ms) (.lst []) = true := by simp [eqOk, D.py, pyL, D.toPy, toPyL, PyData.depth, PyData.depthAll]
  have e : eqB (.scr ms) (.lst []) = some (eqv (.scr ms) (.lst [])) := by
    show (if eqOk (.scr ms) (.lst []) = true then some (eqv (.scr ms) (.lst [])) else none) = _
    rw [if_pos h]
  unfold eqD
  rw [e]
  unfold eqv
  rw [D.toPy, D.toPy, toPyL]
  cases ms with
  | nil => simp [PyData.eqv, PyData.eqvAll]
  | cons x r => simp [PyData.eqv, PyData.eqvAll]
theorem cut_len {α : Type} (xs : List α) (lo hi : Option Int) : (cutL xs lo hi).length ≤ xs.length := by
  unfold cutL
  rw [List.length_take, List.length_drop]
  omega
theorem cut_mem {α : Type} (xs : List α) (lo hi : Option Int) : ∀ x ∈ cutL xs lo hi, x ∈ xs := fun x m => List.mem_of_mem_drop (List.mem_of_mem_take m)
theorem feed_ok (ms : List Int) (hl : ms.length ≤ 63) : ∃ d ρ, g__law_feed [.scr ms] = .ok d ρ ∧ Feed d := by
  have hc := cut_len ms none (some 63)
  by_cases h : ms = []
  · subst h
    refine ⟨feedD [.int 0] 0 0 0, [], ?_, ⟨_, _, _, _, rfl, by simp, by simp, fun x m => ⟨0, by simpa using m⟩⟩⟩
    simp [g__law_feed, m__law_feed, cutD, cutL, listD, D.mem, intD, mulD, eq_nil, keyK, R.noEx]
    rfl
  · refine ⟨feedD ((cutL ms none (some 63)).map .int) 0 0 0, [], ?_, ⟨_, _, _, _, rfl, ?_, by rw [List.length_map]; omega, fun x m => ?_⟩⟩
    · simp [g__law_feed, m__law_feed, cutD, listD, D.mem, intD, mulD, eq_nil, keyK, R.noEx, h]
      rw [if_pos (by omega)]
      rfl
    · intro z
      have z2 : cutL ms none (some 63) = [] := List.map_eq_nil_iff.mp z
      have : (cutL ms none (some 63)).length = ms.length := by
        unfold cutL
        rw [List.length_take, List.length_drop]
        have e1 : HT.sIx ms.length 0 none = 0 := rfl
        have e2 : HT.sIx ms.length ms.length (some 63) = min 63 ms.length := HT.sIx_nat _ _ 63
        rw [e1, e2]
        omega
      rw [z2] at this
      exact h (List.length_eq_zero_iff.mp this.symm)
    · obtain ⟨i, _, e⟩ := List.mem_map.mp m
      exact ⟨i, e.symm⟩
theorem sat_draw {i : Nat} {n : Int} {ρ : DEnv} {a : MA} {d : D} {Q : D → DEnv → Prop} (hs : ρ[i]? = some (some d)) (hd : Feed d) (ha : a ρ = .ok [.int n] ρ) (h0 : 0 < n) (h1 : n < 10 ^ 30)
    (hQ : ∀ r d', 0 ≤ r → r < n → Feed d' → Q (.int r) (ρ.set i (some d'))) : Sat (mCall1 i 1 g__law_draw a ρ) Q := by
  obtain ⟨r, d', e, f, b0, b1⟩ := draw_ok hd h0 h1
  refine ⟨.int r, ρ.set i (some d'), ?_, hQ r d' b0 b1 f⟩
  rw [e_call1]
  simp only [e_own, hs, Option.bind_some, id, R.of_some, R.bind_ok, ha, List.length_singleton, if_true, e]
theorem sat_op2r {f : D → D → Option D} {a : MO} {m : ME} {ρ : DEnv} {d : D} {Q : D → DEnv → Prop} (ha : a ρ = .ok (.v d) ρ) (hm : Sat (m ρ) fun e ρ1 => ∃ z, f d e = some z ∧ Q z ρ1) : Sat (mOp2 f a (mV m) ρ) Q := by
  obtain ⟨e, ρ1, e1, z, e2, q⟩ := hm
  refine ⟨z, ρ1, ?_, q⟩
  simp [ha, e1, e2]
theorem asBls_map {α : Type} (g : α → Bool) : ∀ l : List α, asBls (l.map fun c => .bl (g c)) = some (l.map g)
  | [] => rfl
  | x :: l => by rw [List.map_cons, asBls, asBls_map g l]; rfl
theorem asInts_map {α : Type} (g : α → Int) : ∀ l : List α, asInts (l.map fun c => .int (g c)) = some (l.map g)
  | [] => rfl
  | x :: l => by rw [List.map_cons, asInts, asInts_map g l]; rfl
theorem asStrs_map : ∀ l : List Str, asStrs (l.map .str) = some l
  | [] => rfl
  | x :: l => by rw [List.map_cons, asStrs, asStrs_map l]; rfl
theorem str_len_append (x y : Str) : (x ++ y).length = x.length + y.length := by
  show (x.cps ++ y.cps).size = _
  rw [Array.size_append]; rfl
theorem join_len (a : Str) : ∀ ys : List Str, (Txt.join a ys).length ≤ sj ys a.length := fun ys => by
  rw [TL.join_eq]
  induction ys with
  | nil => exact Nat.zero_le _
  | cons x r ih =>
    cases r with
    | nil => unfold sj; simp; show x.length ≤ _; omega
    | cons y r =>
      have e : Str.join a (x :: y :: r) = x ++ a ++ Str.join a (y :: r) := rfl
      rw [e, str_len_append, str_len_append]
      unfold sj at ih ⊢
      rw [List.map_cons, List.sum_cons, List.length_cons, Nat.succ_mul]
      rw [List.length_cons] at ih ⊢
      omega
theorem cutS (x : Str) (lo hi : Option Int) : ∃ y : Str, cutD lo hi (.str x) = some (.str y) ∧ y.length ≤ x.length := ⟨_, rfl, by
  show (cutL x.cps.toList lo hi).toArray.size ≤ x.cps.size
  rw [List.size_toArray]
  have := cut_len x.cps.toList lo hi
  rwa [Array.length_toList] at this⟩
theorem ixS {x : Str} {i : Int} (h0 : 0 ≤ i) (h1 : i < x.length) : ∃ c ∈ x.cps.toList, ixD (.str x) (.int i) = some (.str ⟨#[c]⟩) := by
  obtain ⟨c, e, m⟩ := atI_in (xs := x.cps.toList) h0 (by rw [Array.length_toList]; exact h1)
  refine ⟨c, m, ?_⟩
  show (atI x.cps.toList i).bind _ = _
  rw [e]; rfl
theorem repr_bl (b : Bool) : reprD (.bl b) = some (.rp (.bool b)) := by
  have h : reprOk (.bl b) = true := by simp [reprOk, D.py, D.toPy, PyData.showable, PyData.depth, D.wt]
  unfold reprD
  rw [if_pos h, D.toPy]
@[simp] theorem ne_rp (p : PyData) : neD (.rp p) (.rp p) = some (.bl false) := by simp [neD, eqB]
theorem law_of {m : MS} {N : Nat} {ms : List Int} (h : Sat (m ([some (.scr ms)] ++ List.replicate (N - 1) none)) fun f _ => f = .rt (.bl true)) : ∃ ρ, (runF N 0 m [.scr ms]).noEx = .ok (.bl true) ρ := by
  obtain ⟨f, ρ, e, rfl⟩ := h
  refine ⟨ρ.take 0, ?_⟩
  rw [e_run]
  show (fin 0 (m ([some (.scr ms)] ++ List.replicate (N - 1) none))).noEx = _
  rw [e]; rfl
theorem sat_loop {k : D → DEnv → Option DEnv} {body : MS} {ma : MA} {ds : List D} {ρ : DEnv} {Q : Fl → DEnv → Prop} (h : ma ρ = .ok ds ρ) (s : Sat (mFor k body ds ρ) Q) : Sat (mLoop k body ma ρ) Q := by
  rw [e_loop, h]; exact s
/-! ### what is drawn: specs of the law's drawing defs -/
def FS (g : List D → R D) (args : List D) (P : D → Prop) : Prop := ∀ d, Feed d → ∃ v d', g (d :: args) = .ok v [some d'] ∧ Feed d' ∧ P v
theorem fs_draw {n : Int} (h0 : 0 < n) (h1 : n < 10 ^ 30) : FS g__law_draw [.int n] fun v => ∃ r, v = .int r ∧ 0 ≤ r ∧ r < n := fun d fd => by
  obtain ⟨r, d', e, f, a, b⟩ := draw_ok fd h0 h1
  exact ⟨_, d', e, f, r, rfl, a, b⟩
theorem sat_fs {i n : Nat} {g : List D → R D} {a : MA} {ρ : DEnv} {d0 : D} {Q : D → DEnv → Prop} (h0 : ρ[i]? = some (some d0))
    (ha : Sat (a ρ) fun ds ρ1 => ds.length = n ∧ ∃ d P, ρ1[i]? = some (some d) ∧ Feed d ∧ FS g ds P ∧ ∀ v d', P v → Feed d' → Q v (ρ1.set i (some d'))) : Sat (mCall1 i n g a ρ) Q := by
  obtain ⟨ds, ρ1, e1, hn, d, P, e2, fd, hs, hQ⟩ := ha
  obtain ⟨v, d', e3, fd', hp⟩ := hs d fd
  refine ⟨v, ρ1.set i (some d'), ?_, hQ v d' hp fd'⟩
  rw [e_call1]
  simp only [e_own, h0, Option.bind_some, id, R.of_some, R.bind_ok, e1, e2, hn, if_true, e3]
theorem fs_run {N : Nat} {m : MS} {args : List D} {P : D → Prop} (h : ∀ d, Feed d → Sat (m (some d :: args.map some ++ List.replicate (N - (args.length + 1)) none)) fun f ρ => ∃ v d', f = .rt v ∧ ρ.take 1 = [some d'] ∧ Feed d' ∧ P v) :
    FS (fun ds => (runF N 1 m ds).noEx) args P := fun d fd => by
  obtain ⟨f, ρ, e, v, d', rfl, e2, fd', hp⟩ := h d fd
  refine ⟨v, d', ?_, fd', hp⟩
  have e3 : m ((d :: args).map some ++ List.replicate (N - (d :: args).length) none) = .ok (.rt v) ρ := e
  show (runF N 1 m (d :: args)).noEx = _
  rw [e_run, e3, e_fin2, e2]; rfl
theorem sat_cons {m : ME} {t : MA} {ρ : DEnv} {Q : List D → DEnv → Prop} (h : Sat (m ρ) fun d ρ1 => Sat (t ρ1) fun ds ρ2 => Q (d :: ds) ρ2) : Sat (mCons m t ρ) Q := by
  obtain ⟨d, ρ1, e1, ds, ρ2, e2, q⟩ := h
  exact ⟨_, _, by rw [e_cons, e1, R.bind_ok, e2, R.bind_ok], q⟩
theorem sat_nil {ρ : DEnv} {Q : List D → DEnv → Prop} (h : Q [] ρ) : Sat (mNil ρ) Q := ⟨_, _, rfl, h⟩
theorem mem_range {lo : Int} {n : Nat} {d : D} (h : d ∈ rangeD lo n) : ∃ i : Nat, i < n ∧ d = .int (lo + i) := by
  obtain ⟨i, m, rfl⟩ := List.mem_map.mp h
  exact ⟨i, List.mem_range.mp m, rfl⟩
theorem len_range (lo : Int) (n : Nat) : (rangeD lo n).length = n := by unfold rangeD; rw [List.length_map, List.length_range]
theorem asStrs_some : ∀ {l : List D} {xs : List Str}, asStrs l = some xs → l = xs.map .str
  | [], _, e => by cases e; rfl
  | d :: l, xs, e => by
    cases d with
    | str x =>
      unfold asStrs at e
      cases q : asStrs l with
      | none => rw [q] at e; cases e
      | some t => rw [q] at e; cases e; rw [asStrs_some q]; rfl
    | _ => cases e
theorem cut_from {α : Type} (xs : List α) {t : Int} (h : 0 ≤ t) : cutL xs (some t) none = xs.drop t.toNat := by
  unfold cutL
  have e1 : HT.sIx xs.length 0 (some t) = min t.toNat xs.length := by
    show (if t < 0 then (t + (xs.length : Int)).toNat else min t.toNat xs.length) = _
    rw [if_neg (by omega)]
  have e2 : HT.sIx xs.length xs.length none = xs.length := rfl
  rw [e1, e2]
  by_cases q : t.toNat ≤ xs.length
  · rw [Nat.min_eq_left q, List.take_of_length_le (by rw [List.length_drop]; omega)]
  · rw [Nat.min_eq_right (by omega), List.drop_of_length_le (Nat.le_refl _), List.drop_of_length_le (by omega), List.take_nil]
theorem cut_to {α : Type} (xs : List α) {t : Int} (h : 0 ≤ t) : cutL xs none (some t) = xs.take t.toNat := by
  unfold cutL
  have e1 : HT.sIx xs.length 0 none = 0 := rfl
  have e2 : HT.sIx xs.length xs.length (some t) = min t.toNat xs.length := by
    show (if t < 0 then (t + (xs.length : Int)).toNat else min t.toNat xs.length) = _
    rw [if_neg (by omega)]
  rw [e1, e2, List.drop_zero, Nat.sub_zero]
  by_cases q : t.toNat ≤ xs.length
  · rw [Nat.min_eq_left q]
  · rw [Nat.min_eq_right (by omega), List.take_of_length_le (Nat.le_refl _), List.take_of_length_le (by omega)]
theorem cut_map {α β : Type} (f : α → β) (xs : List α) (lo hi : Option Int) : cutL (xs.map f) lo hi = (cutL xs lo hi).map f := by
  unfold cutL
  rw [List.length_map, List.map_take, List.map_drop]
@[simp] theorem d_cutL (lo hi : Option Int) (ds : List D) : cutD lo hi (.lst ds) = some (.lst (cutL ds lo hi)) := rfl
@[simp] theorem d_cutT (lo hi : Option Int) (ds : List D) : cutD lo hi (.tup ds) = some (.tup (cutL ds lo hi)) := rfl

/-! ### names -/
def goodB (x : Str) : Bool := decide (1 ≤ x.length) && decide (x.length ≤ 8) && x.cps.toList.all fun c => decide (97 ≤ c) && decide (c ≤ 122)
structure GoodNs (xs : List Str) : Prop where
  nd : xs.Nodup
  all : ∀ x ∈ xs, goodB x = true
def baseB (xs : List Str) : Bool := decide (xs.length = 10) && decide xs.Nodup && xs.all goodB
theorem baseE {xs : List Str} (h : baseB xs = true) : xs.length = 10 ∧ GoodNs xs := by
  unfold baseB at h
  rw [Bool.and_eq_true, Bool.and_eq_true, decide_eq_true_eq, decide_eq_true_eq, List.all_eq_true] at h
  exact ⟨h.1.1, h.1.2, h.2⟩
theorem GoodNs.sub {xs ys : List Str} (h : GoodNs xs) (s : ys.Sublist xs) : GoodNs ys := ⟨h.nd.sublist s, fun x m => h.all x (s.subset m)⟩
theorem GoodNs.perm {xs ys : List Str} (h : GoodNs xs) (s : ys.Perm xs) : GoodNs ys := ⟨s.nodup_iff.mpr h.nd, fun x m => h.all x (s.subset m)⟩
def LLs : List Nat := [97, 98, 99, 100, 101, 102, 103, 104, 105, 106, 107, 108, 109, 110, 111, 112, 113, 114, 115, 116, 117, 118, 119, 120, 121, 122, 97, 98, 99, 100, 101, 102, 103, 104, 105, 106, 107, 108, 109, 110, 111, 112, 113, 114, 115, 116, 117, 118, 119, 120, 121, 122]
def LL : Str := ⟨LLs.toArray⟩
theorem LL_eq : repS "abcdefghijklmnopqrstuvwxyz" 2 = LL := by decide +kernel
def chk (l : List D) : Bool := match asStrs l with
  | some xs => baseB xs
  | none => false
theorem chkE {l : List D} (h : chk l = true) : ∃ xs, l = xs.map .str ∧ xs.length = 10 ∧ GoodNs xs := by
  unfold chk at h
  split at h
  · rename_i xs e
    obtain ⟨a, b⟩ := baseE h
    exact ⟨xs, asStrs_some e, a, b⟩
  · cases h
def f0 (s : Int) : D → D
  | .int k => (cutD (some s) (some (s + 1 + k)) (.str LL)).getD .non
  | _ => .non
def ixL (i : Int) : D := (ixD (.str LL) (.int i)).getD .non
def n0 (s : Int) : List D := (rangeD 0 8).map (f0 s) ++ [ixL (s + 9), ixL (s + 10)]
def cutX (lo hi : Int) : Str := ⟨(cutL LLs (some lo) (some hi)).toArray⟩
def f1 (s z a : Int) : D → D
  | .int k => .str (cutX s (s + a) ++ ((atI LLs (s + 5 * k % 26)).elim Str.empty fun c => ⟨#[c]⟩) ++ cutX (s + a + 1) (s + z))
  | _ => .non
def n1 (s z a : Int) : List D := (rangeD 0 10).map (f1 s z a)
def f2 (s : Int) : D → D
  | .int k => .str (cutX (s + k) (s + k + 1 + 3 * k % 8))
  | _ => .non
def n2 (s : Int) : List D := (rangeD 0 10).map (f2 s)
def n3 : List D := [.str "names", .str "ahead", .str "name", .str "a", .str "ab", .str "aheads", .str "last", .str "ask", .str "row", .str "end"]
theorem chk0 : ∀ s : Nat, s < 26 → chk (n0 s) = true := by decide +kernel
theorem cut_mid {α : Type} (xs : List α) {lo hi : Int} (h0 : 0 ≤ lo) (h1 : lo ≤ hi) (h2 : hi ≤ xs.length) : cutL xs (some lo) (some hi) = (xs.drop lo.toNat).take (hi.toNat - lo.toNat) := by
  unfold cutL
  have e1 : HT.sIx xs.length 0 (some lo) = lo.toNat := by
    show (if lo < 0 then (lo + (xs.length : Int)).toNat else min lo.toNat xs.length) = _
    rw [if_neg (by omega)]; omega
  have e2 : HT.sIx xs.length xs.length (some hi) = hi.toNat := by
    show (if hi < 0 then (hi + (xs.length : Int)).toNat else min hi.toNat xs.length) = _
    rw [if_neg (by omega)]; omega
  rw [e1, e2]
theorem low_LLs : ∀ c ∈ LLs, 97 ≤ c ∧ c ≤ 122 := by decide
def c1 (s k : Nat) : Nat := LLs.getD (s + 5 * k % 26) 0
theorem c1_nd : ∀ s : Nat, s < 26 → ((List.range 10).map (c1 s)).Nodup := by decide +kernel
theorem len_LLs : LLs.length = 52 := by decide
theorem names1 {s z a : Nat} (hs : s < 26) (hz : z < 9) (ha : a < z) : ∃ xs, n1 s z a = xs.map .str ∧ xs.length = 10 ∧ GoodNs xs := by
  have eh : (cutX s ((s : Int) + a)).cps.toList = (LLs.drop s).take a := by
    show (cutL LLs (some (s : Int)) (some ((s : Int) + a))).toArray.toList = _
    have h1 : ((s : Int)).toNat = s := by omega
    have h2 : ((s : Int) + a).toNat - s = a := by omega
    rw [List.toList_toArray, cut_mid LLs (by omega) (by omega) (by rw [len_LLs]; omega), h1, h2]
  have et : (cutX ((s : Int) + a + 1) ((s : Int) + z)).cps.toList = (LLs.drop (s + a + 1)).take (z - a - 1) := by
    show (cutL LLs (some ((s : Int) + a + 1)) (some ((s : Int) + z))).toArray.toList = _
    have h1 : ((s : Int) + a + 1).toNat = s + a + 1 := by omega
    have h2 : ((s : Int) + z).toNat - (s + a + 1) = z - a - 1 := by omega
    rw [List.toList_toArray, cut_mid LLs (by omega) (by omega) (by rw [len_LLs]; omega), h1, h2]
  let nm : Nat → Str := fun k => cutX s ((s : Int) + a) ++ ⟨#[c1 s k]⟩ ++ cutX ((s : Int) + a + 1) ((s : Int) + z)
  have tl : ∀ k, (nm k).cps.toList = (LLs.drop s).take a ++ [c1 s k] ++ (LLs.drop (s + a + 1)).take (z - a - 1) := fun k => by
    show (((cutX s ((s : Int) + a)).cps ++ #[c1 s k]) ++ (cutX ((s : Int) + a + 1) ((s : Int) + z)).cps).toList = _
    rw [Array.toList_append, Array.toList_append, eh, et]
  have ix : ∀ k, k < 10 → s + 5 * k % 26 < 52 := fun k hk => by omega
  refine ⟨(List.range 10).map nm, ?_, by simp, ?_, ?_⟩
  · unfold n1 rangeD
    have e10 : (10 : Nat) = 10 := rfl
    rw [List.map_map, List.map_map]
    refine List.map_congr_left fun k hk => ?_
    have hk := List.mem_range.mp hk
    show f1 s z a (.int (0 + (k : Int))) = .str (nm k)
    have ea : atI LLs ((s : Int) + 5 * (0 + (k : Int)) % 26) = some (c1 s k) := by
      have e : (s : Int) + 5 * (0 + (k : Int)) % 26 = ((s + 5 * k % 26 : Nat) : Int) := by omega
      rw [e]
      have h := ix k hk
      rw [atI_nat (v := c1 s k)]
      unfold c1
      rw [List.getD_eq_getElem?_getD, List.getElem?_eq_getElem (by rw [len_LLs]; exact h)]
      rfl
    show D.str (cutX s ((s : Int) + a) ++ ((atI LLs ((s : Int) + 5 * (0 + (k : Int)) % 26)).elim Str.empty fun c => ⟨#[c]⟩) ++ cutX ((s : Int) + a + 1) ((s : Int) + z)) = _
    rw [ea]
    rfl
  · have nd := c1_nd s hs
    rw [List.nodup_iff_pairwise_ne, List.pairwise_map] at nd ⊢
    refine nd.imp fun {i j} h e => h ?_
    have e2 : (nm i).cps.toList = (nm j).cps.toList := congrArg (fun x : Str => x.cps.toList) e
    rw [tl, tl] at e2
    have e3 := List.append_cancel_right e2
    have e4 := List.append_cancel_left e3
    exact (List.cons.inj e4).1
  · intro x hx
    obtain ⟨k, hk, rfl⟩ := List.mem_map.mp hx
    have hk := List.mem_range.mp hk
    have hl : (nm k).length = z := by
      show (nm k).cps.size = z
      rw [← Array.length_toList, tl]
      simp only [List.length_append, List.length_take, List.length_drop, len_LLs, List.length_singleton]
      omega
    unfold goodB
    rw [hl, decide_eq_true (by omega : 1 ≤ z), decide_eq_true (by omega : z ≤ 8), Bool.true_and, Bool.true_and, List.all_eq_true]
    intro c hc
    have : c ∈ LLs := by
      rw [tl] at hc
      rcases List.mem_append.mp hc with hc | hc
      · rcases List.mem_append.mp hc with hc | hc
        · exact List.mem_of_mem_drop (List.mem_of_mem_take hc)
        · cases List.mem_singleton.mp hc
          unfold c1
          rw [List.getD_eq_getElem?_getD, List.getElem?_eq_getElem (by rw [len_LLs]; exact ix k hk)]
          exact List.getElem_mem _
      · exact List.mem_of_mem_drop (List.mem_of_mem_take hc)
    obtain ⟨a1, a2⟩ := low_LLs c this
    rw [decide_eq_true a1, decide_eq_true a2]; rfl
theorem chk2 : ∀ s : Nat, s < 26 → chk (n2 s) = true := by decide +kernel
theorem chk3 : chk n3 = true := by decide +kernel

abbrev Nn (d : D) (m : Int) (s w z a : Option D) (ns h t u k : Option D) : DEnv := [some d, some (.int m), some (.str LL), s, w, z, a, ns, h, t, u, k]
theorem sat_ifT {c : MT} {m n : MS} {ρ : DEnv} {Q : Fl → DEnv → Prop} (h : c ρ = .ok true ρ) (k : Sat (m ρ) Q) : Sat (mIfS c m n ρ) Q := sat_ifS ⟨true, ρ, h, k⟩
theorem sat_ifF {c : MT} {m n : MS} {ρ : DEnv} {Q : Fl → DEnv → Prop} (h : c ρ = .ok false ρ) (k : Sat (n ρ) Q) : Sat (mIfS c m n ρ) Q := sat_ifS ⟨false, ρ, h, (show (if false = true then Sat (m ρ) Q else Sat (n ρ) Q) from by rw [if_neg Bool.false_ne_true]; exact k)⟩
theorem sat_skip {c : MT} {m n : MS} {ρ : DEnv} {Q : Fl → DEnv → Prop} (h : c ρ = .ok false ρ) (k : Sat (n ρ) Q) : Sat (mSeq (mIfS c m mNx) n ρ) Q := sat_seq (sat_ifF h (sat_of rfl ⟨rfl, k⟩))
abbrev mNamesTail : MS := mSeq (mSet 10 (mCall1 0 1 g__law_draw (mCons (mC (.int 10)) mNil)))
  (mSeq (mSet 7 (mOp2 addD (mV (mSl cutD (mV (mVar 7)) (mPart (mVar 10)) mNoPart)) (mV (mSl cutD (mV (mVar 7)) mNoPart (mPart (mVar 10))))))
  (mRet (mOp2 stepD (mV (mSl cutD (mV (mVar 7)) mNoPart (mPart (mVar 1)))) (mV (mOp2 ixD (mV (mLst (mCons (mC (.int 1)) (mCons (mOp1 negD (mV (mC (.int 1)))) mNil)))) (mV (mCall1 0 1 g__law_draw (mCons (mC (.int 2)) mNil))))))))
theorem tail_ok {d : D} {m : Int} {s w z a h t u k : Option D} {xs : List Str} (fd : Feed d) (h0 : 0 ≤ m) (h1 : m ≤ 10) (hx : xs.length = 10) (hg : GoodNs xs) :
    Sat (mNamesTail (Nn d m s w z a (some (.lst (xs.map .str))) h t u k)) fun f ρ => ∃ v d', f = .rt v ∧ ρ.take 1 = [some d'] ∧ Feed d' ∧ ∃ xs : List Str, v = .lst (xs.map .str) ∧ xs.length = m.toNat ∧ GoodNs xs := by
  refine sat_seq (sat_set (sat_draw (d := d) rfl fd rfl (by decide) (by decide) fun q d1 q0 q1 fd1 => ⟨rfl, ?_⟩))
  change Sat (mSeq _ _ (Nn d1 m s w z a (some (.lst (xs.map .str))) h t (some (.int q)) k)) _
  let ys := xs.drop q.toNat ++ xs.take q.toNat
  have pm : ys.Perm xs := List.perm_append_comm.trans (by rw [List.take_append_drop])
  have hy : ys.length = 10 := pm.length_eq.trans hx
  have e1 : cutL (xs.map D.str) (some q) none = (xs.drop q.toNat).map D.str := by rw [cut_from _ q0, List.map_drop]
  have e2 : cutL (xs.map D.str) none (some q) = (xs.take q.toNat).map D.str := by rw [cut_to _ q0, List.map_take]
  refine sat_seq (sat_set (sat_of (a := .lst (ys.map .str)) (ρ := Nn d1 m s w z a (some (.lst (xs.map .str))) h t (some (.int q)) k) (by
    have hl : (xs.drop q.toNat).length + (xs.take q.toNat).length ≤ 16777216 := by rw [List.length_drop, List.length_take]; omega
    have hl' : xs.length - q.toNat + min q.toNat xs.length ≤ 16777216 := by omega
    simp [e1, e2, hl', ys]) ⟨rfl, ?_⟩))
  change Sat (mRet _ (Nn d1 m s w z a (some (.lst (ys.map .str))) h t (some (.int q)) k)) _
  have e3 : cutL (ys.map D.str) none (some m) = (ys.take m.toNat).map D.str := by rw [cut_to _ h0, List.map_take]
  refine sat_ret (sat_op2r (d := .lst ((ys.take m.toNat).map .str)) (by simp [e3]) (sat_op2r (d := .lst [.int 1, .int (-1)]) (by simp [negD]) (sat_draw (d := d1) rfl fd1 rfl (by decide) (by decide) fun r d2 r0 r1 fd2 => ?_)))
  have hr : r = 0 ∨ r = 1 := by omega
  have gt : GoodNs (ys.take m.toNat) := (hg.perm pm).sub (List.take_sublist _ _)
  have lt : (ys.take m.toNat).length = m.toNat := by rw [List.length_take, hy]; omega
  rcases hr with rfl | rfl
  · exact ⟨.int 1, rfl, .lst ((ys.take m.toNat).map .str), rfl, _, d2, rfl, rfl, fd2, _, rfl, lt, gt⟩
  · exact ⟨.int (-1), rfl, .lst ((ys.take m.toNat).map .str).reverse, rfl, _, d2, rfl, rfl, fd2, (ys.take m.toNat).reverse, by rw [List.map_reverse], by rw [List.length_reverse]; exact lt, gt.perm (List.reverse_perm _)⟩
theorem ixL_eq {i : Int} (h0 : 0 ≤ i) (h1 : i < 52) : ixD (.str LL) (.int i) = some (ixL i) := by
  obtain ⟨c, _, e⟩ := ixS (x := LL) h0 (show i < 52 from h1)
  unfold ixL
  rw [e]; rfl
theorem names_ok {m : Int} (h0 : 0 ≤ m) (h1 : m ≤ 10) : FS g__law_names [.int m] fun v => ∃ xs : List Str, v = .lst (xs.map .str) ∧ xs.length = m.toNat ∧ GoodNs xs := by
  refine fs_run (m := m__law_names) (N := 12) fun d fd => ?_
  unfold m__law_names
  refine sat_seq (sat_set (sat_of (a := .str LL) (ρ := [some d, some (.int m)] ++ List.replicate 10 none) (by rw [← LL_eq]; rfl) ⟨rfl, ?_⟩))
  refine sat_seq (sat_set (sat_draw (d := d) rfl fd rfl (by decide) (by decide) fun s d1 s0 s1 fd1 => ⟨rfl, ?_⟩))
  refine sat_seq (sat_set (sat_draw (d := d1) rfl fd1 rfl (by decide) (by decide) fun w d2 w0 w1 fd2 => ⟨rfl, ?_⟩))
  refine sat_seq (sat_set (sat_op2r (d := .int 1) rfl (sat_draw (d := d2) rfl fd2 rfl (by decide) (by decide) fun z d3 z0 z1 fd3 => ⟨_, rfl, rfl, ?_⟩)))
  refine sat_seq (sat_set (sat_draw (d := d3) (n := 1 + z) rfl fd3 rfl (by omega) (by omega) fun a d4 a0 a1 fd4 => ⟨rfl, ?_⟩))
  obtain ⟨s, rfl⟩ := Int.eq_ofNat_of_zero_le s0
  obtain ⟨z, rfl⟩ := Int.eq_ofNat_of_zero_le z0
  obtain ⟨a, rfl⟩ := Int.eq_ofNat_of_zero_le a0
  have ez : (1 : Int) + (z : Int) = ((z + 1 : Nat) : Int) := by omega
  rw [ez] at a1 ⊢
  have hs : s < 26 := by omega
  have hz : z + 1 < 9 := by omega
  have ha : a < z + 1 := by omega
  generalize z + 1 = z' at a1 hz ha ⊢
  refine sat_seq (sat_set (sat_of (a := .lst n3) (ρ := Nn d4 m (some (.int s)) (some (.int w)) (some (.int z')) (some (.int a)) none none none none none) rfl ⟨rfl, ?_⟩))
  change Sat (mSeq _ _ (Nn d4 m (some (.int s)) (some (.int w)) (some (.int z')) (some (.int a)) (some (.lst n3)) none none none none)) _
  have test : ∀ (j : Int) (ns h t k : Option D), mTest (mOp2 eqD (mV (mVar 4)) (mV (mC (.int j)))) (Nn d4 m (some (.int s)) (some (.int w)) (some (.int z')) (some (.int a)) ns h t none k) = .ok (decide (w = j)) (Nn d4 m (some (.int s)) (some (.int w)) (some (.int z')) (some (.int a)) ns h t none k) := fun j ns h t k => by simp
  have hw : w = 0 ∨ w = 1 ∨ w = 2 ∨ w = 3 := by omega
  have ixe : ∀ i : Int, 0 ≤ i → i < 52 → ixD (.str LL) (.int i) = some (ixL i) := fun i p q => ixL_eq p q
  rcases hw with rfl | rfl | rfl | rfl
  · -- beginnings
    obtain ⟨xs, ex, lx, gx⟩ := chkE (chk0 s hs)
    refine sat_seq (sat_ifT (test 0 _ _ _ _) (sat_set (sat_of (a := .lst (n0 s)) (ρ := Nn d4 m (some (.int s)) (some (.int 0)) (some (.int z')) (some (.int a)) (some (.lst n3)) none none none none) ?_ ⟨rfl, ?_⟩)))
    · have lc := mLc_one (ma := mR1 (mCons (mC (.int 8)) mNil)) (elt := mSl cutD (mV (mVar 2)) (mPart (mVar 3)) (mPart (mOp2 addD (mV (mOp2 addD (mV (mVar 3)) (mV (mC (.int 1))))) (mV (mVar 11))))) (i := 11) (ρ := Nn d4 m (some (.int s)) (some (.int 0)) (some (.int z')) (some (.int a)) (some (.lst n3)) none none none none) (ds := rangeD 0 8) (f0 s) rfl (by rw [len_range]; decide) (by simp) (fun e me => by
        obtain ⟨i, _, rfl⟩ := mem_range me
        simp [f0]
        rfl)
      have i1 := ixe ((s : Int) + 9) (by omega) (by omega)
      have i2 := ixe ((s : Int) + 10) (by omega) (by omega)
      simp [lc, i1, i2, n0, len_range]
    · rw [ex]
      exact sat_skip (test 1 _ _ _ _) (sat_skip (test 2 _ _ _ _) (tail_ok fd4 h0 h1 lx gx))
  · -- alike but for a sign
    obtain ⟨xs, ex, lx, gx⟩ := names1 hs hz ha
    refine sat_skip (test 0 _ _ _ _) (sat_seq (sat_ifT (test 1 _ _ _ _) ?_))
    have le : (s : Int) + a ≤ 52 := by omega
    refine sat_seq (sat_set (sat_of (a := .str (cutX s ((s : Int) + a))) (ρ := Nn d4 m (some (.int s)) (some (.int 1)) (some (.int z')) (some (.int a)) (some (.lst n3)) none none none none) (by simp; rfl) ⟨rfl, ?_⟩))
    refine sat_seq (sat_set (sat_of (a := .str (cutX ((s : Int) + a + 1) ((s : Int) + z'))) (ρ := Nn d4 m (some (.int s)) (some (.int 1)) (some (.int z')) (some (.int a)) (some (.lst n3)) (some (.str (cutX s ((s : Int) + a)))) none none none) (by simp; rfl) ⟨rfl, ?_⟩))
    refine sat_set (sat_of (a := .lst (n1 s z' a)) (ρ := Nn d4 m (some (.int s)) (some (.int 1)) (some (.int z')) (some (.int a)) (some (.lst n3)) (some (.str (cutX s ((s : Int) + a)))) (some (.str (cutX ((s : Int) + a + 1) ((s : Int) + z')))) none none) ?_ ⟨rfl, ?_⟩)
    · refine mLc_one (ds := rangeD 0 10) (f1 s z' a) rfl (by rw [len_range]; decide) (by simp) (fun e me => ?_)
      obtain ⟨i, hi, rfl⟩ := mem_range me
      have mo : mulOk 5 (0 + (i : Int)) = true := mulOkL (by decide)
      have mo' : mulOk 5 (i : Int) = true := mulOkL (by decide)
      have bd : (s : Int) + 5 * (i : Int) % 26 < 52 := by omega
      obtain ⟨c, e1, _⟩ := atI_in (xs := LLs) (i := (s : Int) + 5 * (i : Int) % 26) (by omega) (by rw [len_LLs]; exact bd)
      have e2 : ixD (.str LL) (.int ((s : Int) + 5 * (i : Int) % 26)) = some (.str ⟨#[c]⟩) := by
        show (atI LLs _).bind _ = _
        rw [e1]; rfl
      have lh : ∀ lo hi : Int, (cutX lo hi).length ≤ 52 := fun lo hi => by
        show (cutL LLs (some lo) (some hi)).toArray.size ≤ 52
        rw [List.size_toArray]
        exact Nat.le_trans (cut_len _ _ _) (Nat.le_of_eq len_LLs)
      have l1 := lh s ((s : Int) + a)
      have l2 := lh ((s : Int) + a + 1) ((s : Int) + z')
      have l3 : (cutX s ((s : Int) + a)).length + (⟨#[c]⟩ : Str).length ≤ 16777216 := by
        have : (⟨#[c]⟩ : Str).length = 1 := rfl
        omega
      have l4 : (cutX s ((s : Int) + a) ++ (⟨#[c]⟩ : Str)).length + (cutX ((s : Int) + a + 1) ((s : Int) + z')).length ≤ 16777216 := by
        have : (⟨#[c]⟩ : Str).length = 1 := rfl
        rw [str_len_append]; omega
      simp [mo, mo', e2, l3, l4, f1, e1]
    · show Sat (mSeq _ _ (Nn d4 m (some (.int s)) (some (.int 1)) (some (.int z')) (some (.int a)) (some (.lst (n1 s z' a))) (some (.str (cutX s ((s : Int) + a)))) (some (.str (cutX ((s : Int) + a + 1) ((s : Int) + z')))) none none)) _
      rw [ex]
      exact sat_skip (test 2 _ _ _ _) (tail_ok fd4 h0 h1 lx gx)
  · -- parts of all lengths
    obtain ⟨xs, ex, lx, gx⟩ := chkE (chk2 s hs)
    refine sat_skip (test 0 _ _ _ _) (sat_skip (test 1 _ _ _ _) (sat_seq (sat_ifT (test 2 _ _ _ _) (sat_set (sat_of (a := .lst (n2 s)) (ρ := Nn d4 m (some (.int s)) (some (.int 2)) (some (.int z')) (some (.int a)) (some (.lst n3)) none none none none) ?_ ⟨rfl, ?_⟩)))))
    · refine mLc_one (ds := rangeD 0 10) (f2 s) rfl (by rw [len_range]; decide) (by simp) (fun e me => ?_)
      obtain ⟨i, hi, rfl⟩ := mem_range me
      have mo' : mulOk 3 (i : Int) = true := mulOkL (by decide)
      simp [mo', f2]
      rfl
    · rw [ex]
      exact tail_ok fd4 h0 h1 lx gx
  · obtain ⟨xs, ex, lx, gx⟩ := chkE chk3
    rw [ex]
    exact sat_skip (test 0 _ _ _ _) (sat_skip (test 1 _ _ _ _) (sat_skip (test 2 _ _ _ _) (tail_ok fd4 h0 h1 lx gx)))
/-! ### shuffles -/
theorem sat_mtL {i : Nat} {f : List D → List D → Option (D × List D)} {args : MA} {ρ : DEnv} {ds0 : List D} {Q : D → DEnv → Prop} (h0 : ρ[i]? = some (some (.lst ds0)))
    (ha : Sat (args ρ) fun es ρ1 => ∃ ds z ds', ρ1[i]? = some (some (.lst ds)) ∧ f ds es = some (z, ds') ∧ Q z (ρ1.set i (some (.lst ds')))) : Sat (mMtL i f args ρ) Q := by
  obtain ⟨es, ρ1, e1, ds, z, ds', e2, e3, q⟩ := ha
  refine ⟨z, _, ?_, q⟩
  rw [e_mtL]
  simp only [e_own, h0, Option.bind_some, id, e1, R.bind_ok, e2, e3]
theorem seq_at {i : Int} {n : Nat} (h0 : 0 ≤ i) (h1 : i < n) : seqIndex? i n = some i.toNat := by
  unfold seqIndex?
  simp only []
  have h2 : ¬ i < 0 := by omega
  simp [h2]
  omega
theorem pop_at {ds : List D} {i : Int} (h0 : 0 ≤ i) (h1 : i < ds.length) (h2 : ds.length ≤ 1000000) : ∃ d, ds[i.toNat]? = some d ∧ popD ds [.int i] = some (d, ds.eraseIdx i.toNat) := by
  have hi : i.toNat < ds.length := by omega
  refine ⟨ds[i.toNat], List.getElem?_eq_getElem hi, ?_⟩
  show (if -(2 ^ 63) ≤ i ∧ i < 2 ^ 63 then (seqIndex? i ds.length).bind fun k => (ds[k]?).bind fun d => some (d, ds.eraseIdx k) else none) = _
  rw [if_pos (by omega), seq_at h0 h1, Option.bind_some, List.getElem?_eq_getElem hi, Option.bind_some]
theorem erase_perm {ds : List D} {i : Nat} {d : D} (h : ds[i]? = some d) : ds.Perm (d :: ds.eraseIdx i) := by
  obtain ⟨hi, e⟩ := List.getElem?_eq_some_iff.mp h
  have e2 : ds = ds.take i ++ d :: ds.drop (i + 1) := by
    rw [← e, ← List.drop_eq_getElem_cons hi, List.take_append_drop]
  rw [List.eraseIdx_eq_take_drop_succ]
  conv => lhs; rw [e2]
  exact List.perm_middle
theorem shuffled_ok {x : D} {xs : List D} (hx : x.mem = some xs) (hl : xs.length ≤ 1000) : FS g__law_shuffled [x] fun v => ∃ ys, v = .lst ys ∧ ys.Perm xs := by
  refine fs_run (m := m__law_shuffled) (N := 5) fun d fd => ?_
  unfold m__law_shuffled
  have el : listD x = some (.lst xs) := by unfold listD; rw [hx]; rfl
  refine sat_seq (sat_set (sat_of (a := .lst xs) (ρ := [some d, some x, none, none, none]) (by simp [el]) ⟨rfl, ?_⟩))
  refine sat_seq (sat_set (sat_of (a := .lst []) (ρ := [some d, some x, some (.lst xs), none, none]) rfl ⟨rfl, ?_⟩))
  change Sat (mSeq _ _ [some d, some x, some (.lst xs), some (.lst []), none]) _
  refine sat_seq (sat_loop (ds := rangeD 0 xs.length) ?_ (sat_for (rangeD 0 xs.length) (I := fun i ρ => ∃ (d : D) (left found : List D) (k : Option D), Feed d ∧ ρ = [some d, some x, some (.lst left), some (.lst found), k] ∧ (left ++ found).Perm xs ∧ left.length + i = xs.length) ?_ _ ⟨d, xs, [], none, fd, rfl, by simp, rfl⟩ ?_))
  · have : (-1000000 : Int) ≤ xs.length ∧ (xs.length : Int) ≤ 1000000 := by omega
    simp [lenD, this]
  · rintro i e ρ he ⟨d, left, found, k, fd, rfl, pm, ln⟩
    have hi : i < xs.length := by
      have := (List.getElem?_eq_some_iff.mp he).1
      rwa [len_range] at this
    have hll : 0 < left.length := by omega
    have hfl : left.length + found.length = xs.length := by rw [← List.length_append]; exact pm.length_eq
    refine ⟨[some d, some x, some (.lst left), some (.lst found), some e], rfl, sat_drop (sat_mtL (i := 3) rfl (sat_cons (sat_mtL (i := 2) rfl (sat_cons (sat_draw (d := d) (n := left.length) rfl fd (by simp [lenD]) (by omega) (by omega) fun r d1 r0 r1 fd1 => sat_nil ?_))))) ⟩
    obtain ⟨y, ey, ep⟩ := pop_at r0 r1 (by omega)
    refine ⟨left, y, left.eraseIdx r.toNat, rfl, ep, sat_nil ?_⟩
    refine ⟨found, .non, found ++ [y], rfl, if_pos (by omega), .inl ⟨rfl, d1, _, _, _, fd1, rfl, ?_, ?_⟩⟩
    · have h1 := erase_perm ey
      have h2 : (left.eraseIdx r.toNat ++ (found ++ [y])).Perm (y :: left.eraseIdx r.toNat ++ found) := by
        rw [← List.append_assoc]
        exact List.perm_append_comm
      exact (h2.trans (h1.symm.append_right found)).trans pm
    · rw [List.length_eraseIdx_of_lt (by omega)]; omega
  · rintro ρ ⟨d, left, found, k, fd, rfl, pm, ln⟩
    rw [len_range] at ln
    have : left = [] := List.length_eq_zero_iff.mp (by omega)
    subst this
    exact ⟨rfl, sat_ret (sat_of (a := .lst found) (ρ := [some d, some x, some (.lst []), none, k]) rfl ⟨_, d, rfl, rfl, fd, found, rfl, pm⟩)⟩
/-! ### pairs along a line -/
theorem append_ok {ds : List D} {d : D} (h : ds.length < 16777216) : appendD ds [d] = some (.non, ds ++ [d]) := if_pos h
def Rise (xs : List D) (p : D) : Prop := ∃ (i j : Nat) (a b : D), i < j ∧ xs[i]? = some a ∧ xs[j]? = some b ∧ p = .tup [a, b]
theorem ix_lst {xs : List D} {i : Int} (h0 : 0 ≤ i) (h1 : i < xs.length) : ∃ a, xs[i.toNat]? = some a ∧ ixD (.lst xs) (.int i) = some a := by
  have hi : i.toNat < xs.length := by omega
  have e := atI_nat (List.getElem?_eq_getElem hi)
  have e2 : ((i.toNat : Nat) : Int) = i := by omega
  rw [e2] at e
  exact ⟨xs[i.toNat], List.getElem?_eq_getElem hi, e⟩
theorem ne_int (i j : Int) : neD (.int i) (.int j) = some (.bl (!decide (i = j))) := by
  have h := d_eqI i j
  unfold eqD at h
  unfold neD
  cases q : eqB (.int i) (.int j) with
  | none => rw [q] at h; cases h
  | some b =>
    rw [q] at h
    have : b = decide (i = j) := by simpa using h
    rw [this]; rfl
/-! ### sayings, halves -/
theorem sat_loop2 {k : D → DEnv → Option DEnv} {body : MS} {ma : MA} {ρ : DEnv} {Q : Fl → DEnv → Prop} (h : Sat (ma ρ) fun ds ρ1 => Sat (mFor k body ds ρ1) Q) : Sat (mLoop k body ma ρ) Q := by
  obtain ⟨ds, ρ1, e, s⟩ := h
  rw [e_loop, e]; exact s
/-- what a drawn half is: names, no two alike; sayings that rise along a line of them -/
structure Half (v : D) (m : Nat) : Prop where
  ex : ∃ (xs : List Str) (ys ps : List D), v = .tup [.tup (xs.map .str), .tup ps] ∧ xs.length ≤ m ∧ GoodNs xs ∧ ys.Perm (xs.map D.str) ∧ (∀ p ∈ ps, Rise ys p) ∧ ps.length ≤ 60

abbrev Pn (d : D) (xs : List D) (m w : Int) (f : List D) (k a c o p : Option D) : DEnv := [some d, some (.lst xs), some (.int m), some (.int w), some (.lst f), k, a, c, o, p]
abbrev mPairs1 : MS := mIfS (mAnd (mTest (mOp2 ltD (mV (mVar 3)) (mV (mC (.int 3))))) (mTest (mOp2 gtD (mV (mVar 2)) (mV (mC (.int 1)))))) (mLoop (kName 5) (mSeq (mSet 6 (mCall1 0 1 g__law_draw (mCons (mOp2 subD (mV (mVar 2)) (mV (mC (.int 1)))) mNil)))
  (mDrop (mMtL 4 appendD (mCons (mTup (mCons (mOp2 ixD (mV (mVar 1)) (mV (mVar 6))) (mCons (mOp2 ixD (mV (mVar 1)) (mV (mOp2 addD (mV (mOp2 addD (mV (mVar 6)) (mV (mC (.int 1))))) (mV (mCall1 0 1 g__law_draw (mCons (mOp2 subD (mV (mOp2 subD (mV (mVar 2)) (mV (mC (.int 1))))) (mV (mVar 6))) mNil)))))) mNil))) mNil)))) (mR1 (mCons (mOp2 ixD (mV (mLst (mCons (mOp2 fdivD (mV (mVar 2)) (mV (mC (.int 2)))) (mCons (mVar 2) (mCons (mOp2 mulD (mV (mC (.int 3))) (mV (mVar 2))) mNil))))) (mV (mVar 3))) mNil))) mNx
abbrev mPairs3 : MS := mIfS (mTest (mOp2 eqD (mV (mVar 3)) (mV (mC (.int 3))))) (mSeq (mSet 7 (mCall1 0 1 g__law_draw (mCons (mOp2 addD (mV (mVar 2)) (mV (mC (.int 1)))) mNil)))
  (mSet 4 (mLc (mR1 (mCons (mOp2 subD (mV (mVar 2)) (mV (mC (.int 1)))) mNil)) (kName 5) (mTest (mOp2 neD (mV (mOp2 addD (mV (mVar 5)) (mV (mC (.int 1))))) (mV (mVar 7)))) (mTup (mCons (mOp2 ixD (mV (mVar 1)) (mV (mVar 5))) (mCons (mOp2 ixD (mV (mVar 1)) (mV (mOp2 addD (mV (mVar 5)) (mV (mC (.int 1)))))) mNil))) [5]))) mNx
abbrev mPairs4 : MS := mIfS (mTest (mOp2 eqD (mV (mVar 3)) (mV (mC (.int 4))))) (mSet 4 (mLc (mR2 (mCons (mC (.int 1)) (mCons (mVar 2) mNil))) (kName 5) (mTest (mOp2 gtD (mV (mCall1 0 1 g__law_draw (mCons (mC (.int 4)) mNil))) (mV (mC (.int 0))))) (mTup (mCons (mOp2 ixD (mV (mVar 1)) (mV (mCall1 0 1 g__law_draw (mCons (mVar 5) mNil)))) (mCons (mOp2 ixD (mV (mVar 1)) (mV (mVar 5))) mNil))) [5])) mNx
abbrev mPairs5 : MS := mIfS (mTest (mOp2 eqD (mV (mVar 3)) (mV (mC (.int 5))))) (mSeq (mSet 7 (mCall1 0 1 g__law_draw (mCons (mOp2 addD (mV (mVar 2)) (mV (mC (.int 1)))) mNil)))
  (mLoop (kName 8) (mDrop (mMtL 4 extendD (mCons (mLc (mLs (mSl cutD (mV (mVar 1)) (mPart (mVar 7)) mNoPart)) (kName 9) mYes (mTup (mCons (mVar 8) (mCons (mVar 9) mNil))) [9]) mNil))) (mLs (mSl cutD (mV (mVar 1)) mNoPart (mPart (mVar 7)))))) mNx
theorem m_pairs_eq : m__law_pairs = mSeq (mSet 2 (mOpN (one lenD) (mOCons (mV (mVar 1)) mONil))) (mSeq (mSet 3 (mCall1 0 1 g__law_draw (mCons (mC (.int 7)) mNil))) (mSeq (mSet 4 (mLst mNil)) (mSeq mPairs1 (mSeq mPairs3 (mSeq mPairs4 (mSeq mPairs5 (mRet (mMove 4)))))))) := rfl
/-- what stands behind each of the steps -/
def PS0 (xs : List D) (w : Int) (ρ : DEnv) (b : Nat := 100) : Prop := ∃ (d : D) (f : List D) (k a c o p : Option D), Feed d ∧ ρ = Pn d xs xs.length w f k a c o p ∧ (∀ q ∈ f, Rise xs q) ∧ f.length ≤ b
theorem pairs1_ok {xs : List D} {w : Int} (hl : xs.length ≤ 10) (w0 : 0 ≤ w) {d : D} (fd : Feed d) : Sat (mPairs1 (Pn d xs xs.length w [] none none none none none)) fun f ρ => f = .nx ∧ PS0 xs w ρ := by
  by_cases h : w < 3 ∧ 1 < xs.length
  · have hn : (1 : Int) < xs.length := by omega
    refine sat_ifT (by simp [h.1, hn]) ?_
    have cnt : ∃ n : Nat, n ≤ 30 ∧ mR1 (mCons (mOp2 ixD (mV (mLst (mCons (mOp2 fdivD (mV (mVar 2)) (mV (mC (.int 2)))) (mCons (mVar 2) (mCons (mOp2 mulD (mV (mC (.int 3))) (mV (mVar 2))) mNil))))) (mV (mVar 3))) mNil) (Pn d xs xs.length w [] none none none none none) = .ok (rangeD 0 n) (Pn d xs xs.length w [] none none none none none) := by
      have mo : mulOk 3 (xs.length : Int) = true := mulOkL (by decide)
      have hw : w = 0 ∨ w = 1 ∨ w = 2 := by omega
      rcases hw with rfl | rfl | rfl
      · refine ⟨((xs.length : Int) / 2).toNat, by omega, ?_⟩
        have i0 : ixD (.lst [.int ((xs.length : Int) / 2), .int xs.length, .int (3 * (xs.length : Int))]) (.int 0) = some (.int ((xs.length : Int) / 2)) := rfl
        have b : -1000000 ≤ (xs.length : Int) / 2 ∧ (xs.length : Int) / 2 ≤ 1000000 := by omega
        simp [mo, i0, b]
      · refine ⟨xs.length, by omega, ?_⟩
        have i0 : ixD (.lst [.int ((xs.length : Int) / 2), .int xs.length, .int (3 * (xs.length : Int))]) (.int 1) = some (.int (xs.length : Int)) := rfl
        have b : -1000000 ≤ (xs.length : Int) ∧ (xs.length : Int) ≤ 1000000 := by omega
        simp [mo, i0, b]
      · refine ⟨(3 * (xs.length : Int)).toNat, by omega, ?_⟩
        have i0 : ixD (.lst [.int ((xs.length : Int) / 2), .int xs.length, .int (3 * (xs.length : Int))]) (.int 2) = some (.int (3 * (xs.length : Int))) := rfl
        have b : -1000000 ≤ 3 * (xs.length : Int) ∧ 3 * (xs.length : Int) ≤ 1000000 := by omega
        simp [mo, i0, b]
    obtain ⟨n, hn30, en⟩ := cnt
    refine sat_loop (ds := rangeD 0 n) en (sat_for (rangeD 0 n) (I := fun i ρ => ∃ (d : D) (f : List D) (k a : Option D), Feed d ∧ ρ = Pn d xs xs.length w f k a none none none ∧ (∀ q ∈ f, Rise xs q) ∧ f.length = i) ?_ _ ⟨d, [], none, none, fd, rfl, by simp, rfl⟩ ?_)
    · rintro i e ρ he ⟨d, f, k, a, fd, rfl, hr, lf⟩
      have hi : i < n := by
        have := (List.getElem?_eq_some_iff.mp he).1
        rwa [len_range] at this
      refine ⟨_, rfl, sat_seq (sat_set (sat_draw (d := d) (n := (xs.length : Int) - 1) rfl fd (by simp) (by omega) (by omega) fun r d1 r0 r1 fd1 => ⟨rfl, ?_⟩))⟩
      change Sat (mDrop _ (Pn d1 xs xs.length w f (some e) (some (.int r)) none none none)) _
      obtain ⟨x, ex, ex2⟩ := ix_lst (xs := xs) r0 (by omega)
      refine sat_drop (sat_mtL (i := 4) rfl (sat_cons ?_))
      have tup : ∀ {Q : D → DEnv → Prop}, (∀ (y : D) (j : Nat) (d2 : D), Feed d2 → r.toNat < j → xs[j]? = some y → Q (.tup [x, y]) (Pn d2 xs xs.length w f (some e) (some (.int r)) none none none)) →
          Sat (mTup (mCons (mOp2 ixD (mV (mVar 1)) (mV (mVar 6))) (mCons (mOp2 ixD (mV (mVar 1)) (mV (mOp2 addD (mV (mOp2 addD (mV (mVar 6)) (mV (mC (.int 1))))) (mV (mCall1 0 1 g__law_draw (mCons (mOp2 subD (mV (mOp2 subD (mV (mVar 2)) (mV (mC (.int 1))))) (mV (mVar 6))) mNil)))))) mNil)) (Pn d1 xs xs.length w f (some e) (some (.int r)) none none none)) Q := by
        intro Q hQ
        have inner := sat_op2r (f := ixD) (a := mV (mVar 1)) (m := mOp2 addD (mV (mOp2 addD (mV (mVar 6)) (mV (mC (.int 1))))) (mV (mCall1 0 1 g__law_draw (mCons (mOp2 subD (mV (mOp2 subD (mV (mVar 2)) (mV (mC (.int 1))))) (mV (mVar 6))) mNil)))) (ρ := Pn d1 xs xs.length w f (some e) (some (.int r)) none none none) (d := .lst xs) (Q := fun y ρ' => ∃ (j : Nat) (d2 : D), Feed d2 ∧ r.toNat < j ∧ xs[j]? = some y ∧ ρ' = Pn d2 xs xs.length w f (some e) (some (.int r)) none none none) (by simp)
          (sat_op2r (d := .int (r + 1)) (by simp) (sat_draw (d := d1) (n := (xs.length : Int) - 1 - r) rfl fd1 (by simp) (by omega) (by omega) fun t d2 t0 t1 fd2 => ⟨.int (r + 1 + t), rfl, by
            obtain ⟨y, ey, ey2⟩ := ix_lst (xs := xs) (i := r + 1 + t) (by omega) (by omega)
            exact ⟨y, ey2, (r + 1 + t).toNat, d2, fd2, by omega, ey, rfl⟩⟩))
        obtain ⟨y, ρ', e1, j, d2, fd2, hj, ey, rfl⟩ := inner
        refine ⟨.tup [x, y], _, ?_, hQ y j d2 fd2 hj ey⟩
        rw [e_tup, e_cons, show mOp2 ixD (mV (mVar 1)) (mV (mVar 6)) (Pn d1 xs xs.length w f (some e) (some (.int r)) none none none) = .ok x (Pn d1 xs xs.length w f (some e) (some (.int r)) none none none) from by simp [ex2], R.bind_ok, e_cons, e1]
        rfl
      refine tup fun y j d2 fd2 hj ey => sat_nil ⟨f, .non, f ++ [.tup [x, y]], rfl, append_ok (by omega), .inl ⟨rfl, d2, _, _, _, fd2, rfl, fun q m => ?_, by rw [List.length_append, List.length_singleton, lf]⟩⟩
      rcases List.mem_append.mp m with m | m
      · exact hr q m
      · cases List.mem_singleton.mp m
        exact ⟨r.toNat, j, x, y, hj, ex, ey, rfl⟩
    · rintro ρ ⟨d, f, k, a, fd, rfl, hr, lf⟩
      rw [len_range] at lf
      exact ⟨rfl, d, f, k, a, none, none, none, fd, rfl, hr, by omega⟩
  · refine sat_ifF ?_ (sat_of rfl ⟨rfl, d, [], none, none, none, none, none, fd, rfl, by simp, by simp⟩)
    by_cases h1 : w < 3
    · have h2 : ¬ (1 : Int) < xs.length := fun z => h ⟨h1, by omega⟩
      simp [h1, h2]
    · simp [h1]

theorem pairs3_ok {xs : List D} {w : Int} (hl : xs.length ≤ 10) {ρ : DEnv} (h : PS0 xs w ρ) : Sat (mPairs3 ρ) fun f ρ => f = .nx ∧ PS0 xs w ρ := by
  obtain ⟨d, f, k, a, c, o, p, fd, rfl, hr, lf⟩ := h
  by_cases hw : w = 3
  · refine sat_ifT (by simp [hw]) (sat_seq (sat_set (sat_draw (d := d) (n := (xs.length : Int) + 1) rfl fd (by simp) (by omega) (by omega) fun r d1 r0 r1 fd1 => ⟨rfl, ?_⟩)))
    change Sat (mSet 4 _ (Pn d1 xs xs.length w f k a (some (.int r)) o p)) _
    let g : D → D := fun e => match e with
      | .int i => .tup [(ixD (.lst xs) (.int i)).getD .non, (ixD (.lst xs) (.int (i + 1))).getD .non]
      | _ => .non
    let t : D → Bool := fun e => match e with
      | .int i => !decide (i + 1 = r)
      | _ => false
    have lc := mLc_gen (ma := mR1 (mCons (mOp2 subD (mV (mVar 2)) (mV (mC (.int 1)))) mNil)) (k := kName 5) (test := mTest (mOp2 neD (mV (mOp2 addD (mV (mVar 5)) (mV (mC (.int 1))))) (mV (mVar 7)))) (elt := mTup (mCons (mOp2 ixD (mV (mVar 1)) (mV (mVar 5))) (mCons (mOp2 ixD (mV (mVar 1)) (mV (mOp2 addD (mV (mVar 5)) (mV (mC (.int 1)))))) mNil))) (vs := [5]) (ρ := Pn d1 xs xs.length w f k a (some (.int r)) o p) (ds := rangeD 0 ((xs.length : Int) - 1).toNat) t g (by
        have b : -1000000 ≤ (xs.length : Int) - 1 ∧ (xs.length : Int) - 1 ≤ 1000000 := by omega
        simp [b]) (by rw [len_range]; omega) (fun e me => by
        obtain ⟨i, hi, rfl⟩ := mem_range me
        refine ⟨Pn d1 xs xs.length w f (some (.int (0 + i))) a (some (.int r)) o p, rfl, rfl, by simp [t, ne_int], fun _ => ?_⟩
        obtain ⟨x, _, ex⟩ := ix_lst (xs := xs) (i := 0 + (i : Int)) (by omega) (by omega)
        obtain ⟨y, _, ey⟩ := ix_lst (xs := xs) (i := 0 + (i : Int) + 1) (by omega) (by omega)
        rw [Int.zero_add] at ex ey
        simp [g, ex, ey]) rfl
    refine sat_set (sat_of lc ⟨rfl, d1, _, k, a, some (.int r), o, p, fd1, rfl, fun q m => ?_, ?_⟩)
    · obtain ⟨e, me, rfl⟩ := List.mem_map.mp m
      obtain ⟨i, hi, rfl⟩ := mem_range (List.mem_filter.mp me).1
      obtain ⟨x, ex0, ex⟩ := ix_lst (xs := xs) (i := 0 + (i : Int)) (by omega) (by omega)
      obtain ⟨y, ey0, ey⟩ := ix_lst (xs := xs) (i := 0 + (i : Int) + 1) (by omega) (by omega)
      exact ⟨(0 + (i : Int)).toNat, (0 + (i : Int) + 1).toNat, x, y, by omega, ex0, ey0, by simp only [g, ex, ey]; rfl⟩
    · rw [List.length_map]
      exact Nat.le_trans (List.length_filter_le _ _) (by rw [len_range]; omega)
  · exact sat_ifF (by simp [hw]) (sat_of rfl ⟨rfl, d, f, k, a, c, o, p, fd, rfl, hr, by omega⟩)
theorem pairs4_ok {xs : List D} {w : Int} (hl : xs.length ≤ 10) {ρ : DEnv} (h : PS0 xs w ρ) : Sat (mPairs4 ρ) fun f ρ => f = .nx ∧ PS0 xs w ρ := by
  obtain ⟨d, f, k, a, c, o, p, fd, rfl, hr, lf⟩ := h
  by_cases hw : w = 4
  · refine sat_ifT (by simp [hw]) (sat_set (sat_lc (ds := rangeD 1 ((xs.length : Int) - 1).toNat) (ρ0 := Pn d xs xs.length w f k a c o p) (I := fun acc ρ => ∃ (d : D) (k : Option D), Feed d ∧ ρ = Pn d xs xs.length w f k a c o p ∧ ∀ q ∈ acc, Rise xs q) ?_ (by rw [len_range]; omega) ⟨d, k, fd, rfl, by simp⟩ ?_ ?_))
    · have b : (xs.length : Int) ≤ 1000000 ∧ -1000000 ≤ (xs.length : Int) := by omega
      simp [b]
    · rintro e me acc ρ ⟨d, k', fd, rfl, hq⟩ _
      obtain ⟨i, hi, rfl⟩ := mem_range me
      refine ⟨Pn d xs xs.length w f (some (.int (1 + i))) a c o p, rfl, ?_⟩
      obtain ⟨r, d1, e1, fd1, r0, r1⟩ := draw_ok (n := 4) fd (by decide) (by decide)
      refine ⟨decide (0 < r), Pn d1 xs xs.length w f (some (.int (1 + i))) a c o p, by simp [e1], ?_⟩
      split
      · obtain ⟨y, ey0, ey⟩ := ix_lst (xs := xs) (i := 1 + (i : Int)) (by omega) (by omega)
        obtain ⟨t, d2, e2, fd2, t0, t1⟩ := draw_ok (n := 1 + (i : Int)) fd1 (by omega) (by omega)
        obtain ⟨x, ex0, ex⟩ := ix_lst (xs := xs) (i := t) t0 (by omega)
        refine ⟨.tup [x, y], Pn d2 xs xs.length w f (some (.int (1 + i))) a c o p, by simp [e2, ex, ey], d2, _, fd2, rfl, fun q m => ?_⟩
        rcases List.mem_append.mp m with m | m
        · exact hq q m
        · cases List.mem_singleton.mp m
          exact ⟨t.toNat, (1 + (i : Int)).toNat, x, y, by omega, ex0, ey0, rfl⟩
      · exact ⟨d1, _, fd1, rfl, hq⟩
    · rintro ys ρ ly ⟨d, k', fd, rfl, hq⟩
      rw [len_range] at ly
      exact ⟨rfl, d, ys, k, a, c, o, p, fd, rfl, hq, by omega⟩
  · exact sat_ifF (by simp [hw]) (sat_of rfl ⟨rfl, d, f, k, a, c, o, p, fd, rfl, hr, by omega⟩)
theorem pairs5_ok {xs : List D} {w : Int} (hl : xs.length ≤ 10) {ρ : DEnv} (h : PS0 xs w ρ) : Sat (mPairs5 ρ) fun f ρ => f = .nx ∧ PS0 xs w ρ 200 := by
  obtain ⟨d, f, k, a, c, o, p, fd, rfl, hr, lf⟩ := h
  by_cases hw : w = 5
  · refine sat_ifT (by simp [hw]) (sat_seq (sat_set (sat_draw (d := d) (n := (xs.length : Int) + 1) rfl fd (by simp) (by omega) (by omega) fun r d1 r0 r1 fd1 => ⟨rfl, ?_⟩)))
    change Sat (mLoop _ _ _ (Pn d1 xs xs.length w f k a (some (.int r)) o p)) _
    refine sat_loop (ds := xs.take r.toNat) (by simp [cut_to _ r0]) (sat_for (xs.take r.toNat) (I := fun i ρ => ∃ (f : List D) (o p : Option D), ρ = Pn d1 xs xs.length w f k a (some (.int r)) o p ∧ (∀ q ∈ f, Rise xs q) ∧ f.length ≤ 100 + i * 10) ?_ _ ⟨f, o, p, rfl, hr, by omega⟩ ?_)
    · rintro i e ρ he ⟨f, o, p, rfl, hq, lf⟩
      have hi : i < r.toNat := by
        have := (List.getElem?_eq_some_iff.mp he).1
        rw [List.length_take] at this; omega
      have hxe : xs[i]? = some e := by rw [List.getElem?_take, if_pos hi] at he; exact he
      refine ⟨Pn d1 xs xs.length w f k a (some (.int r)) (some e) p, rfl, ?_⟩
      have lc := mLc_one (ma := mLs (mSl cutD (mV (mVar 1)) (mPart (mVar 7)) mNoPart)) (elt := mTup (mCons (mVar 8) (mCons (mVar 9) mNil))) (i := 9) (ρ := Pn d1 xs xs.length w f k a (some (.int r)) (some e) p) (ds := xs.drop r.toNat) (fun y => .tup [e, y]) (by simp [cut_from _ r0]) (by rw [List.length_drop]; omega) (by simp) (fun y my => by simp)
      have hi10 : i ≤ 10 := by omega
      refine sat_drop (sat_mtL (i := 4) rfl (sat_cons (sat_of lc (sat_nil ⟨f, .non, f ++ (xs.drop r.toNat).map fun y => .tup [e, y], rfl, ?_, .inl ⟨rfl, _, some e, p, rfl, fun q m => ?_, ?_⟩⟩))))
      · show (if f.length + ((xs.drop r.toNat).map fun y => D.tup [e, y]).length ≤ 16777216 then _ else _) = _
        rw [if_pos (by rw [List.length_map, List.length_drop]; omega)]
      · rcases List.mem_append.mp m with m | m
        · exact hq q m
        · obtain ⟨y, my, rfl⟩ := List.mem_map.mp m
          obtain ⟨j, hj⟩ := List.mem_iff_getElem?.mp my
          rw [List.getElem?_drop] at hj
          exact ⟨i, r.toNat + j, e, y, by omega, hxe, hj, rfl⟩
      · rw [List.length_append, List.length_map, List.length_drop]; omega
    · rintro ρ ⟨f, o, p, rfl, hq, lf⟩
      rw [List.length_take] at lf
      exact ⟨rfl, d1, f, k, a, some (.int r), o, p, fd1, rfl, hq, by omega⟩
  · exact sat_ifF (by simp [hw]) (sat_of rfl ⟨rfl, d, f, k, a, c, o, p, fd, rfl, hr, by omega⟩)

theorem pairs_ok {xs : List D} (hl : xs.length ≤ 10) : FS g__law_pairs [.lst xs] fun v => ∃ ps, v = .lst ps ∧ (∀ p ∈ ps, Rise xs p) ∧ ps.length ≤ 200 := by
  refine fs_run (m := m__law_pairs) (N := 10) fun d fd => ?_
  rw [m_pairs_eq]
  refine sat_seq (sat_set (sat_of (a := .int xs.length) (ρ := [some d, some (.lst xs), none, none, none, none, none, none, none, none]) (by simp [lenD]) ⟨rfl, ?_⟩))
  refine sat_seq (sat_set (sat_draw (d := d) rfl fd rfl (by decide) (by decide) fun w d1 w0 w1 fd1 => ⟨rfl, ?_⟩))
  refine sat_seq (sat_set (sat_of rfl ⟨rfl, ?_⟩))
  refine sat_seq ((pairs1_ok (d := d1) hl w0 fd1).mono fun _ ρ1 ⟨e1, h1⟩ => ⟨e1, ?_⟩)
  refine sat_seq ((pairs3_ok hl h1).mono fun _ ρ2 ⟨e2, h2⟩ => ⟨e2, ?_⟩)
  refine sat_seq ((pairs4_ok hl h2).mono fun _ ρ3 ⟨e3, h3⟩ => ⟨e3, ?_⟩)
  refine sat_seq ((pairs5_ok hl h3).mono fun _ ρ4 ⟨e4, h4⟩ => ⟨e4, ?_⟩)
  obtain ⟨d, f, k, a, c, o, p, fd, rfl, hr, lf⟩ := h4
  exact sat_ret (sat_of (a := .lst f) (ρ := [some d, some (.lst xs), some (.int xs.length), some (.int w), none, k, a, c, o, p]) rfl ⟨_, d, rfl, rfl, fd, f, rfl, hr, lf⟩)
theorem sayings_ok {xs : List D} (hl : xs.length ≤ 10) : FS g__law_sayings [.lst xs] fun v => ∃ ps, v = .tup ps ∧ (∀ p ∈ ps, Rise xs p) ∧ ps.length ≤ 60 := by
  refine fs_run (m := m__law_sayings) (N := 5) fun d fd => ?_
  unfold m__law_sayings
  refine sat_seq (sat_set (sat_of rfl ⟨rfl, ?_⟩))
  change Sat (mSeq _ _ [some d, some (.lst xs), some (.lst []), none, none]) _
  obtain ⟨v, d1, e1, fd1, ps, rfl, hp, lp⟩ := pairs_ok hl d fd
  refine sat_seq (sat_loop2 ⟨ps, [some d1, some (.lst xs), some (.lst []), none, none], by simp [e1], ?_⟩)
  refine sat_for ps (I := fun i ρ => ∃ (d : D) (f : List D) (a b : Option D), Feed d ∧ ρ = [some d, some (.lst xs), some (.lst f), a, b] ∧ (∀ q ∈ f, Rise xs q) ∧ f.length ≤ 2 * i) ?_ _ ⟨d1, [], none, none, fd1, rfl, by simp, by simp⟩ ?_
  · rintro i e ρ he ⟨d, f, a, b, fd, rfl, hq, lf⟩
    have hi : i < ps.length := (List.getElem?_eq_some_iff.mp he).1
    have re : Rise xs e := hp e (List.mem_of_getElem? he)
    obtain ⟨r, d2, e2, fd2, r0, r1⟩ := draw_ok (n := 8) fd (by decide) (by decide)
    have cnt : ∃ n : Nat, n ≤ 2 ∧ mR1 (mCons (mOp2 addD (mV (mC (.int 1))) (mV (mOpN (one intD) (mOCons (mV (mOp2 eqD (mV (mCall1 0 1 g__law_draw (mCons (mC (.int 8)) mNil))) (mV (mC (.int 0))))) mONil)))) mNil) [some d, some (.lst xs), some (.lst f), some e, b] = .ok (rangeD 0 n) [some d2, some (.lst xs), some (.lst f), some e, b] := by
      by_cases h : r = 0
      · exact ⟨2, by omega, by simp [e2, h, intD]⟩
      · exact ⟨1, by omega, by simp [e2, h, intD]⟩
    obtain ⟨n, n2, en⟩ := cnt
    refine ⟨[some d, some (.lst xs), some (.lst f), some e, b], rfl, sat_loop2 ⟨_, _, en, ?_⟩⟩
    refine sat_for (rangeD 0 n) (I := fun j ρ => ∃ (d : D) (f : List D) (b : Option D), Feed d ∧ ρ = [some d, some (.lst xs), some (.lst f), some e, b] ∧ (∀ q ∈ f, Rise xs q) ∧ f.length ≤ 2 * i + j) ?_ _ ⟨d2, f, b, fd2, rfl, hq, by omega⟩ ?_
    · rintro j x ρ hx ⟨d, f, b, fd, rfl, hq, lf⟩
      have hj : j < n := by
        have := (List.getElem?_eq_some_iff.mp hx).1
        rwa [len_range] at this
      refine ⟨[some d, some (.lst xs), some (.lst f), some e, some x], rfl, sat_drop (sat_mtL (i := 2) rfl (sat_cons (sat_draw (d := d) (n := (f.length : Int) + 1) rfl fd (by simp [lenD]) (by omega) (by omega) fun r d3 r0 r1 fd3 => ?_)))⟩
      refine sat_cons (sat_of (a := e) (ρ := [some d3, some (.lst xs), some (.lst f), some e, some x]) rfl (sat_nil ⟨f, .non, f.take r.toNat ++ [e] ++ f.drop r.toNat, rfl, if_pos ⟨r0, by omega, by omega⟩, .inl ⟨rfl, d3, _, _, fd3, rfl, fun q m => ?_, ?_⟩⟩))
      · rcases List.mem_append.mp m with m | m
        · rcases List.mem_append.mp m with m | m
          · exact hq q (List.mem_of_mem_take m)
          · cases List.mem_singleton.mp m; exact re
        · exact hq q (List.mem_of_mem_drop m)
      · simp only [List.length_append, List.length_take, List.length_drop, List.length_singleton]; omega
    · rintro ρ ⟨d, f, b, fd, rfl, hq, lf⟩
      rw [len_range] at lf
      exact .inl ⟨rfl, d, f, _, b, fd, rfl, hq, by omega⟩
  · rintro ρ ⟨d, f, a, b, fd, rfl, hq, lf⟩
    refine ⟨rfl, sat_ret (sat_of (a := .tup (f.take 60)) (ρ := [some d, some (.lst xs), some (.lst f), a, b]) ?_ ⟨_, d, rfl, rfl, fd, _, rfl, fun q m => hq q (List.mem_of_mem_take m), by rw [List.length_take]; omega⟩)⟩
    have ec : cutL f none (some 60) = f.take 60 := cut_to f (by decide)
    simp [ec, tupleD, D.mem]
theorem half_ok {m : Int} (h0 : 0 ≤ m) (h1 : m ≤ 10) : FS g__law_half [.int m] fun v => Half v m.toNat := by
  refine fs_run (m := m__law_half) (N := 3) fun d fd => ?_
  unfold m__law_half
  obtain ⟨r, d1, e1, fd1, r0, r1⟩ := draw_ok (n := m + 1) fd (by omega) (by omega)
  obtain ⟨v2, d2, e2, fd2, xs, rfl, lx, gx⟩ := names_ok r0 (by omega) d1 fd1
  refine sat_seq (sat_set (sat_of (a := .lst (xs.map .str)) (ρ := [some d2, some (.int m), none]) (by simp [e1, e2]) ⟨rfl, ?_⟩))
  change Sat (mRet _ [some d2, some (.int m), some (.lst (xs.map .str))]) _
  have lx' : (xs.map D.str).length ≤ 10 := by rw [List.length_map]; omega
  obtain ⟨v3, d3, e3, fd3, ys, rfl, py⟩ := shuffled_ok (x := .lst (xs.map .str)) (xs := xs.map .str) rfl (by omega) d2 fd2
  obtain ⟨v4, d4, e4, fd4, ps, rfl, hp, lp⟩ := sayings_ok (xs := ys) (by rw [py.length_eq]; exact lx') d3 fd3
  exact sat_ret (sat_of (a := .tup [.tup (xs.map .str), .tup ps]) (ρ := [some d4, some (.int m), some (.lst (xs.map .str))]) (by simp [tupleD, D.mem, e3, e4]) ⟨_, d4, rfl, rfl, fd4, xs, ys, ps, rfl, by omega, gx, py, hp, lp⟩)
/-! ### equality of plain data -/
mutual
def D.pln : D → Bool
  | .int _ => true | .str _ => true | .tup xs => plnL xs | .lst xs => plnL xs
  | _ => false
def plnL : List D → Bool
  | [] => true
  | d :: ds => d.pln && plnL ds
end
mutual
theorem pln_py : ∀ d : D, d.pln = true → d.py = true
  | .int _, _ => by rw [D.py]
  | .str _, _ => by rw [D.py]
  | .tup xs, h => by rw [D.pln] at h; rw [D.py]; exact plnL_py xs h
  | .lst xs, h => by rw [D.pln] at h; rw [D.py]; exact plnL_py xs h
  | .non, h => by rw [D.pln] at h <;> first | cases h | (intros; contradiction)
  | .bl _, h => by rw [D.pln] at h <;> first | cases h | (intros; contradiction)
  | .dK _, h => by rw [D.pln] at h <;> first | cases h | (intros; contradiction)
  | .dT _, h => by rw [D.pln] at h <;> first | cases h | (intros; contradiction)
  | .ob _ _, h => by rw [D.pln] at h <;> first | cases h | (intros; contradiction)
  | .scr _, h => by rw [D.pln] at h <;> first | cases h | (intros; contradiction)
  | .rp _, h => by rw [D.pln] at h <;> first | cases h | (intros; contradiction)
  | .ty _, h => by rw [D.pln] at h <;> first | cases h | (intros; contradiction)
theorem plnL_py : ∀ xs : List D, plnL xs = true → pyL xs = true
  | [], _ => by rw [pyL]
  | d :: ds, h => by
    rw [plnL, Bool.and_eq_true] at h
    rw [pyL, Bool.and_eq_true]
    exact ⟨pln_py d h.1, plnL_py ds h.2⟩
end
mutual
theorem eqv_iff : ∀ d e : D, d.pln = true → e.pln = true → (PyData.eqv d.toPy e.toPy = true ↔ d = e)
  | .int i, .int j, _, _ => by rw [D.toPy, D.toPy, PyData.eqv]; simp
  | .str i, .str j, _, _ => by rw [D.toPy, D.toPy, PyData.eqv]; simp
  | .int i, .str j, _, _ => by rw [D.toPy, D.toPy, PyData.eqv]; simp
  | .str i, .int j, _, _ => by rw [D.toPy, D.toPy, PyData.eqv]; simp
  | .int i, .tup j, _, _ => by rw [D.toPy, D.toPy, PyData.eqv]; simp
  | .int i, .lst j, _, _ => by rw [D.toPy, D.toPy, PyData.eqv]; simp
  | .str i, .tup j, _, _ => by rw [D.toPy, D.toPy, PyData.eqv]; simp
  | .str i, .lst j, _, _ => by rw [D.toPy, D.toPy, PyData.eqv]; simp
  | .tup i, .int j, _, _ => by rw [D.toPy, D.toPy, PyData.eqv]; simp
  | .tup i, .str j, _, _ => by rw [D.toPy, D.toPy, PyData.eqv]; simp
  | .lst i, .int j, _, _ => by rw [D.toPy, D.toPy, PyData.eqv]; simp
  | .lst i, .str j, _, _ => by rw [D.toPy, D.toPy, PyData.eqv]; simp
  | .tup i, .lst j, _, _ => by rw [D.toPy, D.toPy, PyData.eqv]; simp
  | .lst i, .tup j, _, _ => by rw [D.toPy, D.toPy, PyData.eqv]; simp
  | .tup i, .tup j, h, k => by
    rw [D.pln] at h k
    rw [D.toPy, D.toPy, PyData.eqv, eqvL_iff i j h k]
    constructor
    · rintro rfl; rfl
    · intro e; exact D.tup.inj e
  | .lst i, .lst j, h, k => by
    rw [D.pln] at h k
    rw [D.toPy, D.toPy, PyData.eqv, eqvL_iff i j h k]
    constructor
    · rintro rfl; rfl
    · intro e; exact D.lst.inj e
  | .non, _, h, _ => by simp [D.pln] at h
  | .bl _, _, h, _ => by simp [D.pln] at h
  | .dK _, _, h, _ => by simp [D.pln] at h
  | .dT _, _, h, _ => by simp [D.pln] at h
  | .ob _ _, _, h, _ => by simp [D.pln] at h
  | .scr _, _, h, _ => by simp [D.pln] at h
  | .rp _, _, h, _ => by simp [D.pln] at h
  | .ty _, _, h, _ => by simp [D.pln] at h
  | _, .non, _, h => by simp [D.pln] at h
  | _, .bl _, _, h => by simp [D.pln] at h
  | _, .dK _, _, h => by simp [D.pln] at h
  | _, .dT _, _, h => by simp [D.pln] at h
  | _, .ob _ _, _, h => by simp [D.pln] at h
  | _, .scr _, _, h => by simp [D.pln] at h
  | _, .rp _, _, h => by simp [D.pln] at h
  | _, .ty _, _, h => by simp [D.pln] at h
theorem eqvL_iff : ∀ xs ys : List D, plnL xs = true → plnL ys = true → (PyData.eqvAll (toPyL xs) (toPyL ys) = true ↔ xs = ys)
  | [], [], _, _ => by rw [toPyL, PyData.eqvAll]; simp
  | [], y :: ys, _, _ => by rw [toPyL, toPyL, PyData.eqvAll]; simp
  | x :: xs, [], _, _ => by rw [toPyL, toPyL, PyData.eqvAll]; simp
  | x :: xs, y :: ys, h, k => by
    rw [plnL, Bool.and_eq_true] at h k
    rw [toPyL, toPyL, PyData.eqvAll, Bool.and_eq_true, eqv_iff x y h.1 k.1, eqvL_iff xs ys h.2 k.2]
    simp
end
theorem depthAll_le {k : Nat} : ∀ xs : List D, (∀ d ∈ xs, d.toPy.depth ≤ k) → PyData.depthAll (toPyL xs) ≤ k
  | [], _ => by rw [toPyL, PyData.depthAll]; exact Nat.zero_le _
  | d :: ds, h => by
    rw [toPyL, PyData.depthAll]
    exact Nat.max_le.mpr ⟨h d List.mem_cons_self, depthAll_le ds fun x m => h x (List.mem_cons_of_mem _ m)⟩
theorem dep_tup {k : Nat} {xs : List D} (h : ∀ d ∈ xs, d.toPy.depth ≤ k) : (D.tup xs).toPy.depth ≤ k + 1 := by
  rw [D.toPy, PyData.depth]; exact Nat.add_le_add_right (depthAll_le xs h) 1
theorem dep_lst {k : Nat} {xs : List D} (h : ∀ d ∈ xs, d.toPy.depth ≤ k) : (D.lst xs).toPy.depth ≤ k + 1 := by
  rw [D.toPy, PyData.depth]; exact Nat.add_le_add_right (depthAll_le xs h) 1
theorem dep_str (x : Str) : (D.str x).toPy.depth = 0 := by rw [D.toPy, PyData.depth]
theorem dep_int (x : Int) : (D.int x).toPy.depth = 0 := by rw [D.toPy, PyData.depth]
theorem dep_bl (x : Bool) : (D.bl x).toPy.depth = 0 := by rw [D.toPy, PyData.depth]
theorem plnL_all : ∀ {xs : List D}, (∀ d ∈ xs, d.pln = true) → plnL xs = true
  | [], _ => by rw [plnL]
  | d :: ds, h => by rw [plnL, h d List.mem_cons_self, plnL_all fun x m => h x (List.mem_cons_of_mem _ m)]; rfl
theorem plnL_mem : ∀ {xs : List D}, plnL xs = true → ∀ d ∈ xs, d.pln = true
  | d :: ds, h, x, m => by
    rw [plnL, Bool.and_eq_true] at h
    rcases List.mem_cons.mp m with rfl | m
    · exact h.1
    · exact plnL_mem h.2 x m
theorem pln_str (x : Str) : (D.str x).pln = true := by rw [D.pln]
theorem pln_int (x : Int) : (D.int x).pln = true := by rw [D.pln]
theorem pln_strs (xs : List Str) : plnL (xs.map .str) = true := plnL_all fun d m => by
  obtain ⟨x, _, rfl⟩ := List.mem_map.mp m; exact pln_str x
theorem pln_lst {xs : List D} (h : plnL xs = true) : (D.lst xs).pln = true := by rw [D.pln]; exact h
theorem pln_tup {xs : List D} (h : plnL xs = true) : (D.tup xs).pln = true := by rw [D.pln]; exact h
theorem eqB_pln {d e : D} (hd : d.pln = true) (he : e.pln = true) (hm : min d.toPy.depth e.toPy.depth ≤ 60) : ∃ b, eqB d e = some b ∧ (b = true ↔ d = e) := by
  have ok : eqOk d e = true := by
    unfold eqOk
    rw [pln_py d hd, pln_py e he, decide_eq_true hm]; rfl
  refine ⟨eqv d e, ?_, eqv_iff d e hd he⟩
  have key : ∀ d e : D, eqB d e = (if eqOk d e = true then some (eqv d e) else none) → eqOk d e = true → eqB d e = some (eqv d e) := fun d e h k => by rw [h, if_pos k]
  cases d <;> cases e <;> first | (exact key _ _ rfl ok) | (simp [D.pln] at hd he)
theorem eqD_pln {d e : D} (hd : d.pln = true) (he : e.pln = true) (hm : min d.toPy.depth e.toPy.depth ≤ 60) : ∃ b, eqD d e = some (.bl b) ∧ (b = true ↔ d = e) := by
  obtain ⟨b, e1, e2⟩ := eqB_pln hd he hm
  exact ⟨b, by unfold eqD; rw [e1]; rfl, e2⟩
theorem neD_pln {d e : D} (hd : d.pln = true) (he : e.pln = true) (hm : min d.toPy.depth e.toPy.depth ≤ 60) : ∃ b, neD d e = some (.bl (!b)) ∧ (b = true ↔ d = e) := by
  obtain ⟨b, e1, e2⟩ := eqB_pln hd he hm
  exact ⟨b, by unfold neD; rw [e1]; rfl, e2⟩
@[simp] theorem d_eqS (x y : Str) : eqD (.str x) (.str y) = some (.bl (decide (x = y))) := by
  obtain ⟨b, e1, e2⟩ := eqD_pln (pln_str x) (pln_str y) (by rw [dep_str]; exact Nat.le_trans (Nat.min_le_left _ _) (Nat.zero_le _))
  rw [e1]
  by_cases h : x = y
  · rw [e2.mpr (by rw [h]), decide_eq_true h]
  · have : b = false := by
      cases b with
      | false => rfl
      | true => exact absurd (D.str.inj (e2.mp rfl)) h
    rw [this, decide_eq_false h]
theorem ne_nil (xs : List Str) : neD (.lst (xs.map .str)) (.lst []) = some (.bl (!decide (xs = []))) := by
  obtain ⟨b, e1, e2⟩ := neD_pln (pln_lst (pln_strs xs)) (pln_lst (xs := []) (by rw [plnL])) (Nat.le_trans (Nat.min_le_right _ _) (by decide))
  rw [e1]
  by_cases h : xs = []
  · rw [e2.mpr (by rw [h]; rfl), decide_eq_true h]
  · have : b = false := by
      cases b with
      | false => rfl
      | true => exact absurd (List.map_eq_nil_iff.mp (D.lst.inj (e2.mp rfl))) h
    rw [this, decide_eq_false h]
theorem inB_lst {d : D} {xs : List D} (hd : d.pln = true) (hx : plnL xs = true) (hm : d.toPy.depth ≤ 60) : ∃ b, inB d (.lst xs) = some b ∧ (b = true ↔ d ∈ xs) := by
  have ok : memOk d xs = true := by
    unfold memOk
    rw [pln_py d hd, plnL_py xs hx, decide_eq_true hm]; rfl
  refine ⟨memD d xs, if_pos ok, ?_⟩
  unfold memD
  rw [List.any_eq_true]
  constructor
  · rintro ⟨z, hz, e⟩
    rw [← (eqv_iff z d (plnL_mem hx z hz) hd).mp e]; exact hz
  · intro h
    exact ⟨d, h, (eqv_iff d d hd hd).mpr rfl⟩
theorem inB_tup {d : D} {xs : List D} (hd : d.pln = true) (hx : plnL xs = true) (hm : d.toPy.depth ≤ 60) : ∃ b, inB d (.tup xs) = some b ∧ (b = true ↔ d ∈ xs) := by
  obtain ⟨b, e, h⟩ := inB_lst hd hx hm
  exact ⟨b, e, h⟩
theorem mem_strs {x : Str} {xs : List Str} : D.str x ∈ xs.map D.str ↔ x ∈ xs := by
  constructor
  · intro h
    obtain ⟨y, hy, e⟩ := List.mem_map.mp h
    rw [← D.str.inj e]; exact hy
  · exact fun h => List.mem_map_of_mem h
theorem nin_strs (x : Str) (xs : List Str) : ninD (.str x) (.lst (xs.map .str)) = some (.bl (!decide (x ∈ xs))) := by
  obtain ⟨b, e1, e2⟩ := inB_lst (pln_str x) (pln_strs xs) (by rw [dep_str]; decide)
  unfold ninD
  rw [e1]
  rw [mem_strs] at e2
  by_cases h : x ∈ xs
  · rw [e2.mpr h, decide_eq_true h]; rfl
  · have : b = false := by cases b with | false => rfl | true => exact absurd (e2.mp rfl) h
    rw [this, decide_eq_false h]; rfl
theorem in_strs (x : Str) (xs : List Str) : inD (.str x) (.lst (xs.map .str)) = some (.bl (decide (x ∈ xs))) := by
  obtain ⟨b, e1, e2⟩ := inB_lst (pln_str x) (pln_strs xs) (by rw [dep_str]; decide)
  unfold inD
  rw [e1]
  rw [mem_strs] at e2
  by_cases h : x ∈ xs
  · rw [e2.mpr h, decide_eq_true h]; rfl
  · have : b = false := by cases b with | false => rfl | true => exact absurd (e2.mp rfl) h
    rw [this, decide_eq_false h]; rfl
/-! ### while by a measure -/
theorem sat_while {c : MT} {b : MS} {I : Nat → DEnv → Prop} {Q : Fl → DEnv → Prop}
    (step : ∀ n ρ, I n ρ → Sat (c ρ) fun k ρ1 => if k = true then Sat (b ρ1) (fun f ρ2 => (f = .nx ∧ ∃ m, m < n ∧ I m ρ2) ∨ ∃ z, f = .rt z ∧ Q (.rt z) ρ2) else Q .nx ρ1) (n : Nat) (ρ : DEnv) (h : I n ρ) : Sat (mWhile c b ρ) Q := by
  have go : ∀ n ρ, I n ρ → ∃ k, Sat (iterW c b k ρ) Q := by
    intro n
    induction n using Nat.strongRecOn with
    | ind n ih =>
      intro ρ h
      obtain ⟨k, ρ1, e1, h1⟩ := step n ρ h
      cases k with
      | false => exact ⟨1, .nx, ρ1, by unfold iterW; rw [e1, R.bind_ok, if_neg Bool.false_ne_true], h1⟩
      | true =>
        rw [if_pos rfl] at h1
        obtain ⟨f, ρ2, e2, h2⟩ := h1
        rcases h2 with ⟨rfl, m, hm, hi⟩ | ⟨z, rfl, q⟩
        · obtain ⟨j, g, ρ3, e3, q⟩ := ih m hm ρ2 hi
          exact ⟨j + 1, g, ρ3, by unfold iterW; rw [e1, R.bind_ok, if_pos rfl, e2, R.bind_ok]; exact e3, q⟩
        · exact ⟨1, .rt z, ρ2, by unfold iterW; rw [e1, R.bind_ok, if_pos rfl, e2, R.bind_ok], q⟩
  obtain ⟨k, f, ρ', e, q⟩ := go n ρ h
  refine ⟨f, ρ', ?_, q⟩
  rw [mWhile_eq k (by rw [e]; intro z; cases z)]
  exact e
/-! ### sayings as a graph -/
abbrev SS := List (Str × Str)
def prD (s : Str × Str) : D := .tup [.str s.1, .str s.2]
def ssD (ss : SS) : D := .tup (ss.map prD)
inductive Rch (ss : SS) : Str → Str → Prop
  | one {a b : Str} : (a, b) ∈ ss → Rch ss a b
  | snoc {a b c : Str} : Rch ss a b → (b, c) ∈ ss → Rch ss a c
theorem Rch.snd {ss : SS} {a b : Str} (h : Rch ss a b) : b ∈ ss.map Prod.snd := by
  cases h with
  | one e => exact List.mem_map_of_mem (f := Prod.snd) e
  | snoc _ e => exact List.mem_map_of_mem (f := Prod.snd) e
theorem nodup_le {α : Type} [DecidableEq α] : ∀ {xs ys : List α}, xs.Nodup → (∀ x ∈ xs, x ∈ ys) → xs.length ≤ ys.length
  | [], _, _, _ => Nat.zero_le _
  | x :: xs, ys, nd, h => by
    obtain ⟨h1, h2⟩ := List.nodup_cons.mp nd
    have hx := h x List.mem_cons_self
    have ih := nodup_le (xs := xs) (ys := ys.erase x) h2 fun y m => (List.mem_erase_of_ne (fun e : y = x => h1 (by rw [← e]; exact m))).mpr (h y (List.mem_cons_of_mem _ m))
    rw [List.length_erase_of_mem hx] at ih
    have := List.length_pos_of_mem hx
    rw [List.length_cons]; omega
theorem nd_snoc {α : Type} {xs : List α} {x : α} (h : xs.Nodup) (n : x ∉ xs) : (xs ++ [x]).Nodup := by
  refine List.nodup_append.mpr ⟨h, by simp, fun a m b m' e => ?_⟩
  cases List.mem_singleton.mp m'
  exact n (e ▸ m)
theorem pop_last (xs : List Str) (x : Str) : popD ((xs ++ [x]).map .str) [] = some (.str x, xs.map .str) := by
  show ((((xs ++ [x]).map D.str)[((xs ++ [x]).map D.str).length - 1]?).bind fun d => some (d, ((xs ++ [x]).map D.str).dropLast)) = _
  rw [List.map_append, List.map_singleton, List.dropLast_concat, List.length_append, List.length_singleton, Nat.add_sub_cancel, List.getElem?_concat_length]
  rfl
abbrev Bh (half : D) (n : Str) (fs ls : List Str) (h o t : Option D) : DEnv := [some half, some (.str n), some (.lst (fs.map .str)), some (.lst (ls.map .str)), h, o, t]
/-- what is found, what is waited for -/
structure DfsI (ss : SS) (n : Str) (fs : List Str) : Prop where
  nd : fs.Nodup
  rch : ∀ x ∈ fs, Rch ss n x
theorem DfsI.len {ss : SS} {n : Str} {fs : List Str} (h : DfsI ss n fs) : fs.length ≤ ss.length := by
  have := nodup_le h.nd fun x m => (h.rch x m).snd
  rwa [List.length_map] at this
theorem half_ss {xs : List Str} {ys ps : List D} (py : ys.Perm (xs.map D.str)) (hp : ∀ p ∈ ps, Rise ys p) : ∃ ss : SS, ps = ss.map prD ∧ ∀ s ∈ ss, s.1 ∈ xs ∧ s.2 ∈ xs := by
  induction ps with
  | nil => exact ⟨[], rfl, by simp⟩
  | cons p ps ih =>
    obtain ⟨ss, e, h⟩ := ih fun q m => hp q (List.mem_cons_of_mem _ m)
    obtain ⟨i, j, a, b, _, ea, eb, rfl⟩ := hp p List.mem_cons_self
    obtain ⟨x, hx, rfl⟩ := List.mem_map.mp (py.subset (List.mem_of_getElem? ea))
    obtain ⟨y, hy, rfl⟩ := List.mem_map.mp (py.subset (List.mem_of_getElem? eb))
    refine ⟨(x, y) :: ss, by rw [List.map_cons, e]; rfl, fun s m => ?_⟩
    rcases List.mem_cons.mp m with rfl | m
    · exact ⟨hx, hy⟩
    · exact h s m
theorem perm_pr {ss : SS} {ys : List D} (h : ys.Perm (ss.map prD)) : ∃ ts : SS, ys = ts.map prD ∧ ts.length = ss.length ∧ ∀ s ∈ ts, s ∈ ss := by
  have : ∀ ys : List D, (∀ y ∈ ys, ∃ s ∈ ss, y = prD s) → ∃ ts : SS, ys = ts.map prD ∧ ∀ s ∈ ts, s ∈ ss := by
    intro ys
    induction ys with
    | nil => exact fun _ => ⟨[], rfl, by simp⟩
    | cons y ys ih =>
      intro h
      obtain ⟨ts, e, ht⟩ := ih fun q m => h q (List.mem_cons_of_mem _ m)
      obtain ⟨s, hs, rfl⟩ := h y List.mem_cons_self
      refine ⟨s :: ts, by rw [List.map_cons, e], fun z m => ?_⟩
      rcases List.mem_cons.mp m with rfl | m
      · exact hs
      · exact ht z m
  obtain ⟨ts, e, ht⟩ := this ys fun y m => by
    obtain ⟨s, hs, e⟩ := List.mem_map.mp (h.subset m)
    exact ⟨s, hs, e.symm⟩
  refine ⟨ts, e, ?_, ht⟩
  have := h.length_eq
  rw [e, List.length_map, List.length_map] at this
  exact this
theorem perm_strs {xs : List Str} {ys : List D} (h : ys.Perm (xs.map D.str)) : ∃ zs : List Str, ys = zs.map .str ∧ zs.length = xs.length ∧ ∀ z ∈ zs, z ∈ xs := by
  have : ∀ ys : List D, (∀ y ∈ ys, ∃ s ∈ xs, y = .str s) → ∃ ts : List Str, ys = ts.map .str ∧ ∀ s ∈ ts, s ∈ xs := by
    intro ys
    induction ys with
    | nil => exact fun _ => ⟨[], rfl, by simp⟩
    | cons y ys ih =>
      intro h
      obtain ⟨ts, e, ht⟩ := ih fun q m => h q (List.mem_cons_of_mem _ m)
      obtain ⟨s, hs, rfl⟩ := h y List.mem_cons_self
      refine ⟨s :: ts, by rw [List.map_cons, e], fun z m => ?_⟩
      rcases List.mem_cons.mp m with rfl | m
      · exact hs
      · exact ht z m
  obtain ⟨ts, e, ht⟩ := this ys fun y m => by
    obtain ⟨s, hs, e⟩ := List.mem_map.mp (h.subset m)
    exact ⟨s, hs, e.symm⟩
  have l := h.length_eq
  rw [e, List.length_map, List.length_map] at l
  exact ⟨ts, e, l, ht⟩
/-! ### repr of halves -/
theorem wtL_le {k : Nat} : ∀ {xs : List D}, (∀ d ∈ xs, d.wt ≤ k) → wtL xs ≤ k * xs.length
  | [], _ => by rw [wtL]; exact Nat.zero_le _
  | d :: ds, h => by
    rw [wtL, List.length_cons, Nat.mul_succ]
    have h1 := h d List.mem_cons_self
    have h2 := wtL_le fun x m => h x (List.mem_cons_of_mem _ m)
    omega
theorem show_str (x : Str) : (D.str x).toPy.showable = true := by rw [D.toPy, PyData.showable]
theorem showL : ∀ {xs : List D}, (∀ d ∈ xs, d.toPy.showable = true) → PyData.showableAll (toPyL xs) = true
  | [], _ => by rw [toPyL, PyData.showableAll]
  | d :: ds, h => by rw [toPyL, PyData.showableAll, h d List.mem_cons_self, showL fun x m => h x (List.mem_cons_of_mem _ m)]; rfl
theorem show_tup {xs : List D} (h : ∀ d ∈ xs, d.toPy.showable = true) : (D.tup xs).toPy.showable = true := by rw [D.toPy, PyData.showable]; exact showL h
theorem goodE {x : Str} (h : goodB x = true) : 1 ≤ x.length ∧ x.length ≤ 8 ∧ ∀ c ∈ x.cps.toList, 97 ≤ c ∧ c ≤ 122 := by
  unfold goodB at h
  rw [Bool.and_eq_true, Bool.and_eq_true, decide_eq_true_eq, decide_eq_true_eq, List.all_eq_true] at h
  refine ⟨h.1.1, h.1.2, fun c m => ?_⟩
  have := h.2 c m
  rw [Bool.and_eq_true, decide_eq_true_eq, decide_eq_true_eq] at this
  exact this
theorem pr_pln (s : Str × Str) : (prD s).pln = true := by
  unfold prD
  exact pln_tup (plnL_all fun d m => by
    rcases List.mem_cons.mp m with rfl | m
    · exact pln_str _
    · cases List.mem_singleton.mp m; exact pln_str _)
theorem ss_pln (ss : SS) : (ssD ss).pln = true := pln_tup (plnL_all fun d m => by
  obtain ⟨s, _, rfl⟩ := List.mem_map.mp m; exact pr_pln s)
theorem half_pln (xs : List Str) (ss : SS) : (D.tup [.tup (xs.map .str), ssD ss]).pln = true := pln_tup (plnL_all fun d m => by
  rcases List.mem_cons.mp m with rfl | m
  · exact pln_tup (pln_strs xs)
  · cases List.mem_singleton.mp m; exact ss_pln ss)
theorem pr_dep (s : Str × Str) : (prD s).toPy.depth ≤ 1 := dep_tup (k := 0) fun d m => by
  rcases List.mem_cons.mp m with rfl | m
  · rw [dep_str]; exact Nat.le_refl _
  · cases List.mem_singleton.mp m; rw [dep_str]; exact Nat.le_refl _
theorem half_repr {xs : List Str} {ss : SS} (lx : xs.length ≤ 20) (hx : ∀ x ∈ xs, goodB x = true) (ls : ss.length ≤ 1000) (hs : ∀ s ∈ ss, s.1 ∈ xs ∧ s.2 ∈ xs) :
    reprD (.tup [.tup (xs.map .str), ssD ss]) = some (.rp (D.tup [.tup (xs.map .str), ssD ss]).toPy) := by
  have e1 : (D.tup [.tup (xs.map .str), ssD ss]).toPy.showable = true := show_tup fun d m => by
    rcases List.mem_cons.mp m with rfl | m
    · exact show_tup fun d m => by obtain ⟨x, _, rfl⟩ := List.mem_map.mp m; exact show_str x
    · cases List.mem_singleton.mp m
      exact show_tup fun d m => by
        obtain ⟨s, _, rfl⟩ := List.mem_map.mp m
        exact show_tup fun d m => by
          rcases List.mem_cons.mp m with rfl | m
          · exact show_str _
          · cases List.mem_singleton.mp m; exact show_str _
  have e2 : (D.tup [.tup (xs.map .str), ssD ss]).toPy.depth ≤ 3 := dep_tup (k := 2) fun d m => by
    rcases List.mem_cons.mp m with rfl | m
    · exact dep_tup (k := 1) fun d m => by obtain ⟨x, _, rfl⟩ := List.mem_map.mp m; rw [dep_str]; exact Nat.zero_le _
    · cases List.mem_singleton.mp m
      exact dep_tup (k := 1) fun d m => by obtain ⟨s, _, rfl⟩ := List.mem_map.mp m; exact pr_dep s
  have w1 : ∀ x ∈ xs, (D.str x).wt ≤ 82 := fun x m => by rw [D.wt]; have := (goodE (hx x m)).2.1; omega
  have w2 : wtL (xs.map D.str) ≤ 82 * xs.length := by
    have := wtL_le (xs := xs.map D.str) (k := 82) fun d m => by obtain ⟨x, hx, rfl⟩ := List.mem_map.mp m; exact w1 x hx
    rwa [List.length_map] at this
  have w3 : wtL (ss.map prD) ≤ 171 * ss.length := by
    have := wtL_le (xs := ss.map prD) (k := 171) fun d m => by
      obtain ⟨s, hm, rfl⟩ := List.mem_map.mp m
      obtain ⟨h1, h2⟩ := hs s hm
      have a := w1 _ h1
      have b := w1 _ h2
      unfold prD
      rw [D.wt, wtL, wtL, wtL]
      show _ + 2 * 2 + 3 ≤ 171
      omega
    rwa [List.length_map] at this
  have e3 : (D.tup [.tup (xs.map .str), ssD ss]).wt ≤ 16777216 := by
    rw [D.wt, wtL, wtL, wtL]
    unfold ssD
    rw [D.wt, D.wt, List.length_map, List.length_map]
    show _ + 2 * 2 + 3 ≤ _
    omega
  have ok : reprOk (.tup [.tup (xs.map .str), ssD ss]) = true := by
    unfold reprOk
    rw [pln_py _ (half_pln xs ss), e1, decide_eq_true (Nat.le_trans e2 (by decide)), decide_eq_true e3]; rfl
  unfold reprD
  rw [if_pos ok]
theorem asc_good {x : Str} (h : goodB x = true) : asc x = true := by
  have g := goodE h
  unfold asc
  rw [Bool.and_eq_true, decide_eq_true_eq, ← Array.all_toList, List.all_eq_true]
  refine ⟨fun c m => decide_eq_true ?_, by have := g.2.1; omega⟩
  have := g.2.2 c m
  omega
theorem nin_strsT (x : Str) (xs : List Str) : ninD (.str x) (.tup (xs.map .str)) = some (.bl (!decide (x ∈ xs))) := nin_strs x xs
theorem in_strsT (x : Str) (xs : List Str) : inD (.str x) (.tup (xs.map .str)) = some (.bl (decide (x ∈ xs))) := in_strs x xs
abbrev hfD (xs : List Str) (ss : SS) : D := .tup [.tup (xs.map .str), ssD ss]
theorem run0 {m : MS} {N : Nat} {ds : List D} {v : D} (h : Sat (m (ds.map some ++ List.replicate (N - ds.length) none)) fun f _ => f = .rt v) : (runF N 0 m ds).noEx = .ok v [] := by
  obtain ⟨f, ρ, e, rfl⟩ := h
  rw [e_run, e, e_fin2, List.take_zero]; rfl
theorem rngN {m : ME} {ρ : DEnv} {n : Nat} (h : m ρ = .ok (.int (n : Nat)) ρ) (hn : n ≤ 1000000) : mR1 (mCons m mNil) ρ = .ok (rangeD 0 n) ρ := by
  rw [e_R1, e_cons, h, R.bind_ok, e_nil, R.bind_ok, R.bind_ok, e_rng1, if_pos ⟨by omega, by omega⟩, Int.toNat_natCast]
theorem rng_at {n i : Nat} {d : D} (h : (rangeD 0 n)[i]? = some d) : i < n ∧ d = .int (i : Nat) := by
  have hi : i < n := by
    have := (List.getElem?_eq_some_iff.mp h).1
    rwa [len_range] at this
  unfold rangeD at h
  rw [List.getElem?_map, List.getElem?_range hi] at h
  cases h
  exact ⟨hi, by show D.int (0 + (i : Int)) = _; rw [Int.zero_add]⟩
theorem fill_one {ρ : DEnv} {i : Nat} (hi : i < ρ.length) : fillD ρ [i] (wipeD ρ [i]) = ρ := by
  show (ρ.set i none).set i ((ρ[i]?).bind id) = ρ
  rw [List.set_set]
  apply List.ext_getElem?
  intro j
  by_cases e : i = j
  · subst e
    rw [List.getElem?_set_self hi, List.getElem?_eq_getElem hi]
    cases ρ[i] <;> rfl
  · rw [List.getElem?_set_ne e]
/-- a comprehension over things that stand for others -/
theorem mLc_map {α : Type} {ma : MA} {k : D → DEnv → Option DEnv} {test : MT} {elt : ME} {vs : List Nat} {ρ : DEnv} {R : List α} (g : α → D) (p : α → Bool) (f : α → D) (hma : ma ρ = .ok (R.map g) ρ) (hlen : R.length ≤ 16777216)
    (hstep : ∀ d ∈ R, ∃ ρ1, k (g d) (wipeD ρ vs) = some ρ1 ∧ wipeD ρ1 vs = wipeD ρ vs ∧ test ρ1 = .ok (p d) ρ1 ∧ (p d = true → elt ρ1 = .ok (f d) ρ1)) (hfill : fillD ρ vs (wipeD ρ vs) = ρ) :
    mLc ma k test elt vs ρ = .ok (.lst ((R.filter p).map f)) ρ := by
  have go : ∀ (l : List α) (acc : List D) (ρ0 : DEnv), (∀ d ∈ l, d ∈ R) → acc.length + l.length ≤ 16777216 → wipeD ρ0 vs = wipeD ρ vs → ∃ ρ', mLcGo k test elt vs (l.map g) acc ρ0 = .ok (acc ++ (l.filter p).map f) ρ' ∧ wipeD ρ' vs = wipeD ρ vs := by
    intro l
    induction l with
    | nil => intro acc ρ0 _ _ h; exact ⟨ρ0, by simp [mLcGo], h⟩
    | cons d l ih =>
      intro acc ρ0 hm hl h
      obtain ⟨ρ1, e1, e2, e3, e4⟩ := hstep d (hm d List.mem_cons_self)
      rw [List.length_cons] at hl
      rw [List.map_cons]
      unfold mLcGo
      rw [h, e1]
      dsimp only
      rw [e3, VL.R.bindN_ok]
      cases hp : p d with
      | false =>
        rw [if_neg Bool.false_ne_true]
        obtain ⟨ρ', e5, e6⟩ := ih acc ρ1 (fun x m => hm x (List.mem_cons_of_mem _ m)) (by omega) e2
        refine ⟨ρ', ?_, e6⟩
        rw [e5, List.filter_cons_of_neg (by rw [hp]; exact Bool.false_ne_true)]
      | true =>
        rw [if_pos rfl, e4 hp, VL.R.bindN_ok, if_pos (by omega)]
        obtain ⟨ρ', e5, e6⟩ := ih (acc ++ [f d]) ρ1 (fun x m => hm x (List.mem_cons_of_mem _ m)) (by rw [List.length_append, List.length_singleton]; omega) e2
        refine ⟨ρ', ?_, e6⟩
        rw [e5, List.filter_cons_of_pos hp, List.map_cons, List.append_assoc]
        rfl
  obtain ⟨ρ', e1, e2⟩ := go R [] ρ (fun _ m => m) (by simpa using hlen) rfl
  unfold mLc
  rw [hma, VL.R.bind_ok, e1, VL.R.bind_ok, e2, hfill]
  rfl
/-- .. of one name -/
theorem lc_var {α : Type} {ma : MA} {test : MT} {elt : ME} {i : Nat} {ρ : DEnv} {R : List α} (g : α → D) (p : α → Bool) (f : α → D) (hma : ma ρ = .ok (R.map g) ρ) (hlen : R.length ≤ 16777216) (hi : i < ρ.length)
    (ht : ∀ a ∈ R, test (ρ.set i (some (g a))) = .ok (p a) (ρ.set i (some (g a)))) (he : ∀ a ∈ R, p a = true → elt (ρ.set i (some (g a))) = .ok (f a) (ρ.set i (some (g a)))) : mLc ma (kName i) test elt [i] ρ = .ok (.lst ((R.filter p).map f)) ρ :=
  mLc_map g p f hma hlen (fun a ha => ⟨ρ.set i (some (g a)), by
    show some ((ρ.set i none).set i _) = _
    rw [List.set_set], by
    show (ρ.set i _).set i none = ρ.set i none
    rw [List.set_set], ht a ha, he a ha⟩) (fill_one hi)
theorem lc_vmap {α : Type} {ma : MA} {elt : ME} {i : Nat} {ρ : DEnv} {R : List α} (g : α → D) (f : α → D) (hma : ma ρ = .ok (R.map g) ρ) (hlen : R.length ≤ 16777216) (hi : i < ρ.length)
    (he : ∀ a ∈ R, elt (ρ.set i (some (g a))) = .ok (f a) (ρ.set i (some (g a)))) : mLc ma (kName i) mYes elt [i] ρ = .ok (.lst (R.map f)) ρ := by
  have := lc_var (elt := elt) (test := mYes) g (fun _ => true) f hma hlen hi (fun _ _ => rfl) fun a m _ => he a m
  rwa [List.filter_eq_self.mpr fun _ _ => rfl] at this
theorem op2_val {f : D → D → Option D} {ma mb : ME} {ρ : DEnv} {d e r : D} (ha : ma ρ = .ok d ρ) (hb : mb ρ = .ok e ρ) (h : f d e = some r) : mOp2 f (mV ma) (mV mb) ρ = .ok r ρ := by
  rw [e_op2, e_V, ha, R.bind_ok, R.bind_ok, e_V, hb]
  simp only [R.bind_ok, e_getv, Option.bind_some, h, R.of_some]
theorem call0_1 {g : List D → R D} {m : ME} {ρ ρ' : DEnv} {d v : D} (h : m ρ = .ok d ρ) (e : g [d] = .ok v ρ') : mCall0 1 g (mCons m mNil) ρ = .ok v ρ := by
  rw [e_call0, e_cons, h, R.bind_ok, e_nil, R.bind_ok, R.bind_ok, if_pos (show ([d] : List D).length = 1 from rfl), e]
theorem call0_2 {g : List D → R D} {m n : ME} {ρ ρ' : DEnv} {d e v : D} (h : m ρ = .ok d ρ) (h2 : n ρ = .ok e ρ) (h3 : g [d, e] = .ok v ρ') : mCall0 2 g (mCons m (mCons n mNil)) ρ = .ok v ρ := by
  rw [e_call0, e_cons, h, R.bind_ok, e_cons, h2, R.bind_ok, e_nil, R.bind_ok, R.bind_ok, R.bind_ok, if_pos (show ([d, e] : List D).length = 2 from rfl), h3]
theorem test_val {m : ME} {ρ : DEnv} {k : Bool} (h : m ρ = .ok (.bl k) ρ) : mTest m ρ = .ok k ρ := by
  rw [e_test, h, R.bind_ok, e_asB]
theorem or_ff {t u : MT} {ρ : DEnv} (h1 : t ρ = .ok false ρ) (h2 : u ρ = .ok false ρ) : mOr t u ρ = .ok false ρ := by
  rw [e_or, h1, R.bind_ok, if_neg Bool.false_ne_true, h2]
theorem call0_3 {g : List D → R D} {m n o : ME} {ρ ρ' : DEnv} {d e f v : D} (h : m ρ = .ok d ρ) (h2 : n ρ = .ok e ρ) (h4 : o ρ = .ok f ρ) (h3 : g [d, e, f] = .ok v ρ') : mCall0 3 g (mCons m (mCons n (mCons o mNil))) ρ = .ok v ρ := by
  rw [e_call0, e_cons, h, R.bind_ok, e_cons, h2, R.bind_ok, e_cons, h4, R.bind_ok, e_nil, R.bind_ok, R.bind_ok, R.bind_ok, R.bind_ok, if_pos (show ([d, e, f] : List D).length = 3 from rfl), h3]
theorem call0_4 {g : List D → R D} {m n o p : ME} {ρ ρ' : DEnv} {d e f k v : D} (h : m ρ = .ok d ρ) (h2 : n ρ = .ok e ρ) (h4 : o ρ = .ok f ρ) (h5 : p ρ = .ok k ρ) (h3 : g [d, e, f, k] = .ok v ρ') : mCall0 4 g (mCons m (mCons n (mCons o (mCons p mNil)))) ρ = .ok v ρ := by
  rw [e_call0, e_cons, h, R.bind_ok, e_cons, h2, R.bind_ok, e_cons, h4, R.bind_ok, e_cons, h5, R.bind_ok, e_nil, R.bind_ok, R.bind_ok, R.bind_ok, R.bind_ok, R.bind_ok, if_pos (show ([d, e, f, k] : List D).length = 4 from rfl), h3]
theorem and_f {t u : MT} {ρ : DEnv} (h1 : t ρ = .ok false ρ) : mAnd t u ρ = .ok false ρ := by
  rw [e_and, h1, R.bind_ok]; rfl
theorem and_tf {t u : MT} {ρ : DEnv} (h1 : t ρ = .ok true ρ) (h2 : u ρ = .ok false ρ) : mAnd t u ρ = .ok false ρ := by
  rw [e_and, h1, R.bind_ok, if_pos rfl, h2]
theorem not_t {t : MT} {ρ : DEnv} (h1 : t ρ = .ok true ρ) : mNot t ρ = .ok false ρ := by
  rw [e_not, h1, R.bind_ok]; rfl
theorem ts_val {m : ME} {ρ : DEnv} {ds : List D} (h : m ρ = .ok (.tup ds) ρ) : mTs m ρ = .ok ds ρ := by
  show (m ρ).bind asT = _
  rw [h]; rfl
theorem ls_val {m : ME} {ρ : DEnv} {ds : List D} (h : m ρ = .ok (.lst ds) ρ) : mLs m ρ = .ok ds ρ := by
  show (m ρ).bind asL = _
  rw [h]; rfl
theorem tup2_val {m n : ME} {ρ : DEnv} {d e : D} (h1 : m ρ = .ok d ρ) (h2 : n ρ = .ok e ρ) : mTup (mCons m (mCons n mNil)) ρ = .ok (.tup [d, e]) ρ := by
  rw [e_tup, e_cons, h1, R.bind_ok, e_cons, h2, R.bind_ok, e_nil, R.bind_ok, R.bind_ok, R.bind_ok]
  rfl
/-! ### truths in lists, kinds -/
theorem isi_of {d : D} {c n : String} {b : Bool} (h : d.cls = some c) (hk : kitB c n = some b) : isiD d (.ty n) = some (.bl b) := by
  show (d.cls.bind fun c => (kitB c n).bind fun b => some (D.bl b)) = _
  rw [h, Option.bind_some, hk]; rfl
theorem py_bls (bs : List Bool) : pyL (bs.map .bl) = true := by
  induction bs with
  | nil => rw [List.map_nil, pyL]
  | cons b bs ih => rw [List.map_cons, pyL, D.py, ih]; rfl
theorem inB_bls (c : Bool) (bs : List Bool) : inB (.bl c) (.lst (bs.map .bl)) = some (bs.any fun b => b == c) := by
  have ok : memOk (.bl c) (bs.map .bl) = true := by
    unfold memOk
    rw [py_bls, D.py, decide_eq_true (by rw [dep_bl]; decide : (D.bl c).toPy.depth ≤ 60)]; rfl
  have e : memD (.bl c) (bs.map .bl) = bs.any fun b => b == c := by
    unfold memD
    rw [List.any_map]
    congr 1
  have : inB (.bl c) (.lst (bs.map .bl)) = some (memD (.bl c) (bs.map .bl)) := if_pos ok
  rw [this, e]
theorem in_bls (c : Bool) (bs : List Bool) : inD (.bl c) (.lst (bs.map .bl)) = some (.bl (bs.any fun b => b == c)) := by
  unfold inD; rw [inB_bls]; rfl
theorem nin_bls (c : Bool) (bs : List Bool) : ninD (.bl c) (.lst (bs.map .bl)) = some (.bl (!bs.any fun b => b == c)) := by
  unfold ninD; rw [inB_bls]; rfl
theorem ne_blS (b : Bool) : neD (.bl b) (.bl b) = some (.bl false) := by
  have ok : eqOk (.bl b) (.bl b) = true := by
    unfold eqOk
    rw [D.py, decide_eq_true (by rw [dep_bl]; decide)]; rfl
  have ev : eqv (.bl b) (.bl b) = true := by
    unfold eqv
    rw [D.toPy]
    cases b <;> decide +kernel
  show ((if eqOk (.bl b) (.bl b) = true then some (eqv (.bl b) (.bl b)) else none).bind fun c => some (D.bl (!c))) = _
  rw [if_pos ok, ev]; rfl
theorem ne_strD (x y : Str) : neD (.str x) (.str y) = some (.bl (!decide (x = y))) := by
  obtain ⟨k, e, h⟩ := neD_pln (d := .str x) (e := .str y) (pln_str x) (pln_str y) (by rw [dep_str, dep_str]; exact Nat.zero_le _)
  rw [e]
  congr 3
  rw [Bool.eq_iff_iff, h, decide_eq_true_iff]
  exact ⟨fun e => by cases e; rfl, fun e => by rw [e]⟩
theorem pln_ints (l : List Int) : plnL (l.map .int) = true := plnL_all fun d m => by
  obtain ⟨i, _, rfl⟩ := List.mem_map.mp m; exact pln_int i
theorem ne_intsL (l : List Int) : neD (.lst (l.map .int)) (.lst (l.map .int)) = some (.bl false) := by
  have hd : (D.lst (l.map .int)).toPy.depth ≤ 1 := dep_lst (k := 0) fun d m => by
    obtain ⟨i, _, rfl⟩ := List.mem_map.mp m
    rw [dep_int]; exact Nat.le_refl _
  obtain ⟨k, e, h⟩ := neD_pln (pln_lst (pln_ints l)) (pln_lst (pln_ints l)) (by omega)
  rw [e, h.mpr rfl]; rfl
theorem eq_nilT (l : List Str) : eqD (.tup (l.map .str)) (.tup []) = some (.bl (decide (l = []))) := by
  have hd : (D.tup ([] : List D)).toPy.depth ≤ 1 := dep_tup (k := 0) fun d m => by cases m
  obtain ⟨b, e1, e2⟩ := eqD_pln (pln_tup (pln_strs l)) (pln_tup (xs := []) (by rw [plnL])) (by omega)
  rw [e1]
  have : b = decide (l = []) := by
    rw [Bool.eq_iff_iff, e2, decide_eq_true_iff]
    exact ⟨fun z => List.map_eq_nil_iff.mp (D.tup.inj z), fun z => by rw [z]; rfl⟩
  rw [this]
theorem len_opS {f : D → Option D} {m : ME} {ρ : DEnv} {d v : D} (h : m ρ = .ok d ρ) (e : f d = some v := by rfl) : mOpN (one f) (mOCons (mV m) mONil) ρ = .ok v ρ := by
  rw [e_opN, e_oCons, e_V, h]
  simp only [R.bind_ok, e_oNil, e_getA, e_getA0, e_getv, Option.bind_some, e_one, e, R.of_some]
/-! ### halves turned, left in part, called otherwise: the program -/
theorem op1_val {f : D → Option D} {m : ME} {ρ : DEnv} {d v : D} (h : m ρ = .ok d ρ) (e : f d = some v) : mOp1 f (mV m) ρ = .ok v ρ := by
  rw [e_op1, e_V, h, R.bind_ok, R.bind_ok]
  simp only [e_getv, Option.bind_some, e, R.of_some]
theorem two_opS {f : D → D → Option D} {m n : ME} {ρ : DEnv} {d e v : D} (h : m ρ = .ok d ρ) (h2 : n ρ = .ok e ρ) (q : f d e = some v) : mOpN (two f) (mOCons (mV m) (mOCons (mV n) mONil)) ρ = .ok v ρ := by
  rw [e_opN, e_oCons, e_V, h]
  simp only [R.bind_ok, e_oCons, e_V, h2, e_oNil, e_getA, e_getA0, e_getv, Option.bind_some, e_two, q, R.of_some]
/-- a comprehension over pairs, two names -/
theorem lc_prs {ma : MA} {elt : ME} {i j : Nat} {ρ : DEnv} {R : SS} (f : Str × Str → D) (hma : ma ρ = .ok (R.map prD) ρ) (hlen : R.length ≤ 16777216) (hij : i ≠ j) (hi : i < ρ.length) (hj : j < ρ.length)
    (he : ∀ s ∈ R, elt ((ρ.set i (some (.str s.1))).set j (some (.str s.2))) = .ok (f s) ((ρ.set i (some (.str s.1))).set j (some (.str s.2)))) : mLc ma (kTup' 2 (kCons (kName i) (kCons (kName j) kNil))) mYes elt [i, j] ρ = .ok (.lst (R.map f)) ρ := by
  have wp : ∀ ρ : DEnv, wipeD ρ [i, j] = (ρ.set j none).set i none := fun _ => rfl
  have := mLc_map (ma := ma) (k := kTup' 2 (kCons (kName i) (kCons (kName j) kNil))) (test := mYes) (elt := elt) (vs := [i, j]) (ρ := ρ) (R := R) prD (fun _ => true) f hma hlen (fun s hs => ⟨(ρ.set i (some (.str s.1))).set j (some (.str s.2)), ?_, ?_, rfl, fun _ => he s hs⟩) ?_
  · rw [List.filter_eq_self.mpr fun _ _ => rfl] at this
    exact this
  · rw [wp]
    show some ((((ρ.set j none).set i none).set i (some (.str s.1))).set j (some (.str s.2))) = _
    rw [List.set_set, List.set_comm _ _ (Ne.symm hij), List.set_set]
  · rw [wp, wp, List.set_set, List.set_comm _ _ (Ne.symm hij), List.set_set, List.set_comm _ _ hij]
  · show (((wipeD ρ [i, j]).set i ((ρ[i]?).bind id)).set j ((ρ[j]?).bind id)) = ρ
    rw [wp, List.set_set, List.set_comm _ _ (Ne.symm hij), List.set_set]
    apply List.ext_getElem?
    intro k
    by_cases e2 : j = k
    · subst e2
      rw [List.getElem?_set_self (by simpa using hj), List.getElem?_eq_getElem hj]
      cases ρ[j] <;> rfl
    · by_cases e1 : i = k
      · subst e1
        rw [List.getElem?_set_ne e2, List.getElem?_set_self hi, List.getElem?_eq_getElem hi]
        cases ρ[i] <;> rfl
      · rw [List.getElem?_set_ne e2, List.getElem?_set_ne e1]
theorem sat_op1 {f : D → Option D} {m : ME} {ρ : DEnv} {Q : D → DEnv → Prop} (h : Sat (m ρ) fun d ρ1 => ∃ v, f d = some v ∧ Q v ρ1) : Sat (mOp1 f (mV m) ρ) Q := by
  obtain ⟨d, ρ1, e, v, e2, q⟩ := h
  refine ⟨v, ρ1, ?_, q⟩
  rw [e_op1, e_V, e, R.bind_ok, R.bind_ok]
  simp only [e_getv, Option.bind_some, e2, R.of_some]
theorem sat_op2l {f : D → D → Option D} {m n : ME} {ρ : DEnv} {Q : D → DEnv → Prop} (h : Sat (m ρ) fun d ρ1 => Sat (n ρ1) fun e ρ2 => ∃ v, f d e = some v ∧ Q v ρ2) : Sat (mOp2 f (mV m) (mV n) ρ) Q := by
  obtain ⟨d, ρ1, e, d2, ρ2, e2, v, e3, q⟩ := h
  refine ⟨v, ρ2, ?_, q⟩
  rw [e_op2, e_V, e, R.bind_ok, R.bind_ok, e_V, e2]
  simp only [R.bind_ok, e_getv, Option.bind_some, e3, R.of_some]
theorem sat_test {m : ME} {ρ : DEnv} {Q : Bool → DEnv → Prop} (h : Sat (m ρ) fun d ρ1 => ∃ b, d = .bl b ∧ Q b ρ1) : Sat (mTest m ρ) Q := by
  obtain ⟨d, ρ1, e, b, rfl, q⟩ := h
  exact ⟨b, ρ1, by rw [e_test, e, R.bind_ok, e_asB], q⟩
theorem sat_not {t : MT} {ρ : DEnv} {Q : Bool → DEnv → Prop} (h : Sat (t ρ) fun b ρ1 => Q (!b) ρ1) : Sat (mNot t ρ) Q := by
  obtain ⟨b, ρ1, e, q⟩ := h
  exact ⟨!b, ρ1, by rw [e_not, e, R.bind_ok], q⟩
theorem sat_or {t u : MT} {ρ : DEnv} {Q : Bool → DEnv → Prop} (h : Sat (t ρ) fun b ρ1 => if b = true then Q true ρ1 else Sat (u ρ1) Q) : Sat (mOr t u ρ) Q := by
  obtain ⟨b, ρ1, e, q⟩ := h
  cases b with
  | true => exact ⟨true, ρ1, by rw [e_or, e, R.bind_ok, if_pos rfl], by simpa using q⟩
  | false =>
    rw [if_neg Bool.false_ne_true] at q
    obtain ⟨c, ρ2, e2, q⟩ := q
    exact ⟨c, ρ2, by rw [e_or, e, R.bind_ok, if_neg Bool.false_ne_true, e2], q⟩
theorem sat_opS {f : D → Option D} {m : ME} {ρ : DEnv} {Q : D → DEnv → Prop} (h : Sat (m ρ) fun d ρ1 => ∃ v, f d = some v ∧ Q v ρ1) : Sat (mOpN (one f) (mOCons (mV m) mONil) ρ) Q := by
  obtain ⟨d, ρ1, e, v, e2, q⟩ := h
  refine ⟨v, ρ1, ?_, q⟩
  rw [e_opN, e_oCons, e_V, e]
  simp only [R.bind_ok, e_oNil, e_getA, e_getA0, e_getv, Option.bind_some, e_one, e2, R.of_some]
/-! ### a half of few orders, drawn -/
theorem sat_seqB {m n : MS} {ρ : DEnv} {Q : Fl → DEnv → Prop} (h : Sat (m ρ) fun f ρ1 => (f = .nx ∧ Sat (n ρ1) Q) ∨ ∃ z, f = .rt z ∧ Q (.rt z) ρ1) : Sat (mSeq m n ρ) Q := by
  obtain ⟨f, ρ1, e, h⟩ := h
  rw [e_seq, e]
  rcases h with ⟨rfl, h⟩ | ⟨z, rfl, h⟩
  · exact h
  · exact ⟨_, _, rfl, h⟩
theorem and_b {t u : MT} {ρ : DEnv} {b c : Bool} (h1 : t ρ = .ok b ρ) (h2 : b = true → u ρ = .ok c ρ) : mAnd t u ρ = .ok (b && c) ρ := by
  rw [e_and, h1, R.bind_ok]
  cases b with
  | false => rfl
  | true => rw [if_pos rfl, h2 rfl]; rfl
theorem or_b {t u : MT} {ρ : DEnv} {b c : Bool} (h1 : t ρ = .ok b ρ) (h2 : b = false → u ρ = .ok c ρ) : mOr t u ρ = .ok (b || c) ρ := by
  rw [e_or, h1, R.bind_ok]
  cases b with
  | false => rw [if_neg Bool.false_ne_true, h2 rfl]; rfl
  | true => rfl
theorem andV_b {m n : ME} {ρ : DEnv} {b c : Bool} (h1 : m ρ = .ok (.bl b) ρ) (h2 : b = true → n ρ = .ok (.bl c) ρ) : mAndV m n ρ = .ok (.bl (b && c)) ρ := by
  rw [e_andV, h1, R.bind_ok, e_asB, R.bind_ok]
  cases b with
  | false => rfl
  | true => rw [if_pos rfl, h2 rfl]; rfl
theorem orV_b {m n : ME} {ρ : DEnv} {b c : Bool} (h1 : m ρ = .ok (.bl b) ρ) (h2 : b = false → n ρ = .ok (.bl c) ρ) : mOrV m n ρ = .ok (.bl (b || c)) ρ := by
  unfold mOrV
  rw [h1, R.bind_ok, e_asB, R.bind_ok]
  cases b with
  | false => rw [if_neg Bool.false_ne_true, h2 rfl]; rfl
  | true => rfl
theorem not_b {t : MT} {ρ : DEnv} {b : Bool} (h1 : t ρ = .ok b ρ) : mNot t ρ = .ok (!b) ρ := by
  rw [e_not, h1, R.bind_ok]
theorem notV_b {m : ME} {ρ : DEnv} {b : Bool} (h1 : m ρ = .ok (.bl b) ρ) : mNotV m ρ = .ok (.bl (!b)) ρ := by
  rw [e_notV, h1, R.bind_ok, e_asB, R.bind_ok]
theorem opo_val {i : Nat} {f : D → Option D} {ρ : DEnv} {d v : D} (h : ρ[i]? = some (some d)) (e : f d = some v) : mOpN (one f) (mOCons (mS i) mONil) ρ = .ok v ρ := by
  rw [e_opN, e_oCons, e_S]
  simp only [R.bind_ok, e_oNil, e_getA, e_getA0, e_gets, h, Option.bind_some, id, e_one, e, R.of_some]
theorem isi_str (x : Str) : isiD (.str x) (.ty "str") = some (.bl true) := by
  have : kitB "str" "str" = some true := by decide +kernel
  show ((kitB "str" "str").bind fun b => some (D.bl b)) = some (D.bl true)
  rw [this]; rfl
/-! ### any thing, by what is asked of it -/
theorem isi_tup (l : List D) : isiD (.tup l) (.ty "tuple") = some (.bl true) := isi_of (c := "tuple") rfl (by decide +kernel)
theorem not_f {t : MT} {ρ : DEnv} (h : t ρ = .ok false ρ) : mNot t ρ = .ok true ρ := by
  rw [e_not, h]; rfl
def Elt (d : D) : Prop := (∃ x, d = .str x) ∨ ∃ c, d.cls = some c ∧ kitB c "str" = some false
inductive Thg : D → Prop
  | no {d : D} {c : String} : d.cls = some c → kitB c "tuple" = some false → Thg d
  | tup {ds : List D} : ds.length ≤ 20 → (∀ d ∈ ds, Elt d) → Thg (.tup ds)
def isS : D → Bool
  | .str _ => true
  | _ => false
theorem Elt.isi {d : D} (h : Elt d) : isiD d (.ty "str") = some (.bl (isS d)) := by
  rcases h with ⟨x, rfl⟩ | ⟨c, h1, h2⟩
  · exact isi_str x
  · have e : isS d = false := by
      cases d with
      | str x =>
        cases h1
        exact absurd h2 (by decide +kernel)
      | _ => rfl
    rw [e]; exact isi_of h1 h2
theorem strs_all : ∀ {ds : List D}, (∀ d ∈ ds, isS d = true) → ∃ l : List Str, ds = l.map .str
  | [], _ => ⟨[], rfl⟩
  | d :: ds, h => by
    obtain ⟨l, e⟩ := strs_all fun x m => h x (List.mem_cons_of_mem _ m)
    have hd := h d List.mem_cons_self
    cases d with
    | str x => exact ⟨x :: l, by rw [e]; rfl⟩
    | _ => cases hd
/-! ### plain things: none, truths, numbers, texts, tuples, lists; how deep, how long they are shown -/
mutual
def D.plb : D → Bool
  | .non => true | .bl _ => true | .int i => decide (i.natAbs < 2 ^ 200) | .str x => asc x
  | .tup xs => plbL xs | .lst xs => plbL xs
  | .dK _ => false | .dT _ => false | .ob _ _ => false | .scr _ => false | .rp _ => false | .ty _ => false | .key _ => false
def plbL : List D → Bool
  | [] => true
  | d :: ds => d.plb && plbL ds
end
theorem plbL_all : ∀ {xs : List D}, (∀ d ∈ xs, d.plb = true) → plbL xs = true
  | [], _ => by rw [plbL]
  | d :: ds, h => by rw [plbL, h d List.mem_cons_self, plbL_all fun x m => h x (List.mem_cons_of_mem _ m)]; rfl
theorem plbL_mem : ∀ {xs : List D}, plbL xs = true → ∀ d ∈ xs, d.plb = true
  | [], _, d, m => by simp at m
  | x :: xs, h, d, m => by
    rw [plbL, Bool.and_eq_true] at h
    rcases List.mem_cons.mp m with rfl | m
    · exact h.1
    · exact plbL_mem h.2 d m
theorem log_small {i : Int} (h : i.natAbs < 2 ^ 200) : i.natAbs.log2 < 1920 := by
  by_cases z : i.natAbs = 0
  · rw [z]; decide
  · exact Nat.lt_trans ((Nat.log2_lt z).mpr h) (by decide)
mutual
theorem D.plb_py : ∀ {d : D}, d.plb = true → d.py = true ∧ d.toPy.showable = true
  | .non, _ => ⟨by rw [D.py], by rw [D.toPy, PyData.showable]⟩
  | .bl _, _ => ⟨by rw [D.py], by rw [D.toPy, PyData.showable]⟩
  | .int i, h => by
    rw [D.plb, decide_eq_true_eq] at h
    exact ⟨by rw [D.py], by rw [D.toPy, PyData.showable, decide_eq_true_eq]; exact log_small h⟩
  | .str _, _ => ⟨by rw [D.py], by rw [D.toPy, PyData.showable]⟩
  | .tup xs, h => by
    rw [D.plb] at h
    rw [D.py, D.toPy, PyData.showable]
    exact plbL_py h
  | .lst xs, h => by
    rw [D.plb] at h
    rw [D.py, D.toPy, PyData.showable]
    exact plbL_py h
  | .dK _, h => by rw [D.plb] at h; cases h
  | .dT _, h => by rw [D.plb] at h; cases h
  | .ob _ _, h => by rw [D.plb] at h; cases h
  | .scr _, h => by rw [D.plb] at h; cases h
  | .rp _, h => by rw [D.plb] at h; cases h
  | .ty _, h => by rw [D.plb] at h; cases h
  | .key _, h => by rw [D.plb] at h; cases h
theorem plbL_py : ∀ {xs : List D}, plbL xs = true → pyL xs = true ∧ PyData.showableAll (toPyL xs) = true
  | [], _ => ⟨by rw [pyL], by rw [toPyL, PyData.showableAll]⟩
  | d :: ds, h => by
    rw [plbL, Bool.and_eq_true] at h
    obtain ⟨a, b⟩ := D.plb_py h.1
    obtain ⟨c, e⟩ := plbL_py h.2
    rw [pyL, toPyL, PyData.showableAll, a, b, c, e]
    exact ⟨rfl, rfl⟩
end
mutual
/-- how many things that hold none -/
def D.lv : D → Nat
  | .tup xs => lvL xs | .lst xs => lvL xs
  | .non => 1 | .bl _ => 1 | .int _ => 1 | .str _ => 1 | .dK _ => 1 | .dT _ => 1 | .ob _ _ => 1 | .scr _ => 1 | .rp _ => 1 | .ty _ => 1 | .key _ => 1
def lvL : List D → Nat
  | [] => 0
  | d :: ds => d.lv + lvL ds
end
structure Pz (d : D) (k w n : Nat) : Prop where
  pl : d.plb = true
  dp : d.toPy.depth ≤ k
  wt : d.wt ≤ w
  lv : d.lv ≤ n
theorem Pz.mono {d : D} {k w n k' w' n' : Nat} (h : Pz d k w n) (hk : k ≤ k') (hw : w ≤ w') (hn : n ≤ n') : Pz d k' w' n' := ⟨h.pl, Nat.le_trans h.dp hk, Nat.le_trans h.wt hw, Nat.le_trans h.lv hn⟩
theorem Pz.ok {d : D} {k w n : Nat} (h : Pz d k w n) (hk : k ≤ 60) (hw : w ≤ 16777216) : reprOk d = true := by
  obtain ⟨a, b⟩ := D.plb_py h.pl
  unfold reprOk
  rw [a, b, decide_eq_true (Nat.le_trans h.dp hk), decide_eq_true (Nat.le_trans h.wt hw)]; rfl
theorem Pz.repr {d : D} {k w n : Nat} (h : Pz d k w n) (hk : k ≤ 60) (hw : w ≤ 16777216) : reprD d = some (.rp d.toPy) := if_pos (h.ok hk hw)
theorem wt_tup (ds : List D) : (D.tup ds).wt = wtL ds + 2 * ds.length + 3 := by rw [D.wt]
theorem wt_lst (ds : List D) : (D.lst ds).wt = wtL ds + 2 * ds.length + 3 := by rw [D.wt]
theorem lv_tup (ds : List D) : (D.tup ds).lv = lvL ds := by rw [D.lv]
theorem lv_lst (ds : List D) : (D.lst ds).lv = lvL ds := by rw [D.lv]
theorem lvL_app : ∀ a b : List D, lvL (a ++ b) = lvL a + lvL b
  | [], b => by rw [List.nil_append, lvL, Nat.zero_add]
  | d :: a, b => by rw [List.cons_append, lvL, lvL, lvL_app a b, Nat.add_assoc]
theorem lvL_one (d : D) : lvL [d] = d.lv := by rw [lvL, lvL, Nat.add_zero]
theorem lvL_td (k : Nat) (a : List D) : lvL (a.take k) + lvL (a.drop k) = lvL a := by rw [← lvL_app, List.take_append_drop]
theorem lvL_cut (ds : List D) (lo hi : Option Int) : lvL (cutL ds lo hi) ≤ lvL ds := by
  unfold cutL
  have h1 := lvL_td (HT.sIx ds.length 0 lo) ds
  have h2 := lvL_td (HT.sIx ds.length ds.length hi - HT.sIx ds.length 0 lo) (ds.drop (HT.sIx ds.length 0 lo))
  omega
theorem lvL_rev : ∀ ds : List D, lvL ds.reverse = lvL ds
  | [] => rfl
  | d :: ds => by rw [List.reverse_cons, lvL_app, lvL_rev ds, lvL_one, lvL]; omega
theorem lvL_mem : ∀ {ds : List D} {d : D}, d ∈ ds → d.lv ≤ lvL ds
  | x :: ds, d, m => by
    rw [lvL]
    rcases List.mem_cons.mp m with rfl | m
    · omega
    · have := lvL_mem m; omega
theorem wtL_app : ∀ a b : List D, wtL (a ++ b) = wtL a + wtL b
  | [], b => by rw [List.nil_append, wtL, Nat.zero_add]
  | d :: a, b => by rw [List.cons_append, wtL, wtL, wtL_app a b, Nat.add_assoc]
theorem wtL_one (d : D) : wtL [d] = d.wt := by rw [wtL, wtL, Nat.add_zero]
theorem wtL_td (k : Nat) (a : List D) : wtL (a.take k) + wtL (a.drop k) = wtL a := by rw [← wtL_app, List.take_append_drop]
theorem wtL_cut (ds : List D) (lo hi : Option Int) : wtL (cutL ds lo hi) ≤ wtL ds := by
  unfold cutL
  have h1 := wtL_td (HT.sIx ds.length 0 lo) ds
  have h2 := wtL_td (HT.sIx ds.length ds.length hi - HT.sIx ds.length 0 lo) (ds.drop (HT.sIx ds.length 0 lo))
  omega
theorem wtL_rev : ∀ ds : List D, wtL ds.reverse = wtL ds
  | [] => rfl
  | d :: ds => by rw [List.reverse_cons, wtL_app, wtL_rev ds, wtL_one, wtL]; omega
theorem wtL_mem : ∀ {ds : List D} {d : D}, d ∈ ds → d.wt ≤ wtL ds
  | x :: ds, d, m => by
    rw [wtL]
    rcases List.mem_cons.mp m with rfl | m
    · omega
    · have := wtL_mem m; omega
theorem dep_mem : ∀ {ds : List D} {k : Nat}, PyData.depthAll (toPyL ds) ≤ k → ∀ d ∈ ds, d.toPy.depth ≤ k
  | [], _, _, d, m => by simp at m
  | x :: ds, k, h, d, m => by
    rw [toPyL, PyData.depthAll] at h
    obtain ⟨h1, h2⟩ := Nat.max_le.mp h
    rcases List.mem_cons.mp m with rfl | m
    · exact h1
    · exact dep_mem h2 d m
theorem Pz.mem {ds : List D} {k w n : Nat} (h : Pz (.tup ds) k w n) : ∀ d ∈ ds, d.plb = true ∧ d.toPy.depth + 1 ≤ k := fun d m => by
  have h1 := h.pl
  have h2 := h.dp
  rw [D.plb] at h1
  rw [D.toPy, PyData.depth] at h2
  refine ⟨plbL_mem h1 d m, ?_⟩
  have := dep_mem (Nat.le_sub_of_add_le h2) d m
  omega
theorem Pz.pos {ds : List D} {k w n : Nat} (h : Pz (.tup ds) k w n) : 1 ≤ k ∧ wtL ds + 2 * ds.length + 3 ≤ w ∧ lvL ds ≤ n := by
  have h2 := h.dp
  have h3 := h.wt
  rw [D.toPy, PyData.depth] at h2
  have h4 := h.lv
  rw [wt_tup] at h3
  rw [lv_tup] at h4
  exact ⟨by omega, h3, h4⟩
theorem Pz.tup {ds : List D} {k w n : Nat} (h : ∀ d ∈ ds, d.plb = true ∧ d.toPy.depth + 1 ≤ k) (hk : 1 ≤ k) (hw : wtL ds + 2 * ds.length + 3 ≤ w) (hn : lvL ds ≤ n) : Pz (.tup ds) k w n := by
  obtain ⟨j, rfl⟩ : ∃ j, k = j + 1 := ⟨k - 1, by omega⟩
  exact ⟨by rw [D.plb]; exact plbL_all fun d m => (h d m).1, dep_tup fun d m => Nat.le_of_succ_le_succ (h d m).2, by rw [wt_tup]; exact hw, by rw [lv_tup]; exact hn⟩
theorem Pz.lst {ds : List D} {k w n : Nat} (h : ∀ d ∈ ds, d.plb = true ∧ d.toPy.depth + 1 ≤ k) (hk : 1 ≤ k) (hw : wtL ds + 2 * ds.length + 3 ≤ w) (hn : lvL ds ≤ n) : Pz (.lst ds) k w n := by
  obtain ⟨j, rfl⟩ : ∃ j, k = j + 1 := ⟨k - 1, by omega⟩
  exact ⟨by rw [D.plb]; exact plbL_all fun d m => (h d m).1, dep_lst fun d m => Nat.le_of_succ_le_succ (h d m).2, by rw [wt_lst]; exact hw, by rw [lv_lst]; exact hn⟩
theorem Pz.str {x : Str} (a : asc x = true) : Pz (.str x) 0 (10 * x.length + 2) 1 := ⟨by rw [D.plb]; exact a, by rw [dep_str]; exact Nat.le_refl _, by rw [D.wt]; exact Nat.le_refl _, by rw [D.lv]; exact Nat.le_refl _⟩
theorem Pz.good {x : Str} (h : goodB x = true) : Pz (.str x) 0 82 1 := (Pz.str (asc_good h)).mono (Nat.le_refl _) (by have := (goodE h).2.1; omega) (Nat.le_refl _)
theorem Pz.non : Pz .non 0 4 1 := ⟨by rw [D.plb], by rw [D.toPy, PyData.depth]; exact Nat.le_refl _, by rw [D.wt]; exact Nat.le_refl _, by rw [D.lv]; exact Nat.le_refl _⟩
theorem Pz.bl (b : Bool) : Pz (.bl b) 0 5 1 := ⟨by rw [D.plb], by rw [D.toPy, PyData.depth]; exact Nat.le_refl _, by rw [D.wt]; exact Nat.le_refl _, by rw [D.lv]; exact Nat.le_refl _⟩
theorem Pz.int {i : Int} (h : i.natAbs < 2 ^ 200) : Pz (.int i) 0 2000 1 := ⟨by rw [D.plb, decide_eq_true_eq]; exact h, by rw [D.toPy, PyData.depth]; exact Nat.le_refl _, by rw [D.wt]; exact Nat.le_refl _, by rw [D.lv]; exact Nat.le_refl _⟩
theorem Pz.one {d : D} {k w n : Nat} (h : Pz d k w n) : Pz (.tup [d]) (k + 1) (w + 5) n := .tup (fun x m => by rw [List.mem_singleton.mp m]; exact ⟨h.pl, Nat.succ_le_succ h.dp⟩) (by omega) (by rw [wtL_one, List.length_singleton]; have := h.wt; omega) (by rw [lvL_one]; exact h.lv)
/-- its kind -/
def isTp : D → Bool
  | .tup _ => true
  | _ => false
theorem plb_tuple {d : D} (h : d.plb = true) : isiD d (.ty "tuple") = some (.bl (isTp d)) := by
  cases d with
  | non => exact isi_of (c := "NoneType") (b := false) rfl (by decide +kernel)
  | bl _ => exact isi_of (c := "bool") (b := false) rfl (by decide +kernel)
  | int _ => exact isi_of (c := "int") (b := false) rfl (by decide +kernel)
  | str _ => exact isi_of (c := "str") (b := false) rfl (by decide +kernel)
  | tup _ => exact isi_of (c := "tuple") (b := true) rfl (by decide +kernel)
  | lst _ => exact isi_of (c := "list") (b := false) rfl (by decide +kernel)
  | _ => rw [D.plb] at h; cases h
theorem plb_elt {d : D} (h : d.plb = true) : Elt d := by
  cases d with
  | non => exact .inr ⟨"NoneType", rfl, by decide +kernel⟩
  | bl _ => exact .inr ⟨"bool", rfl, by decide +kernel⟩
  | int _ => exact .inr ⟨"int", rfl, by decide +kernel⟩
  | str x => exact .inl ⟨x, rfl⟩
  | tup _ => exact .inr ⟨"tuple", rfl, by decide +kernel⟩
  | lst _ => exact .inr ⟨"list", rfl, by decide +kernel⟩
  | _ => rw [D.plb] at h; cases h
theorem add_Ls {a c : List D} (h : a.length + c.length ≤ 16777216) : addD (.lst a) (.lst c) = some (.lst (a ++ c)) := if_pos h
theorem add_Ts {a c : List D} (h : a.length + c.length ≤ 16777216) : addD (.tup a) (.tup c) = some (.tup (a ++ c)) := if_pos h
theorem sat_lstO {t : MA} {ρ : DEnv} {Q : D → DEnv → Prop} (h : Sat (t ρ) fun ds ρ1 => ds.length ≤ 16777216 ∧ Q (.lst ds) ρ1) : Sat (mLst t ρ) Q := by
  obtain ⟨ds, ρ1, e, l, q⟩ := h
  exact ⟨_, _, by rw [e_lst, e, R.bind_ok, if_pos l], q⟩
theorem tup1O {m : ME} {ρ : DEnv} {d : D} (h1 : m ρ = .ok d ρ) : mTup (mCons m mNil) ρ = .ok (.tup [d]) ρ := by
  rw [e_tup, e_cons, h1, R.bind_ok, e_nil, R.bind_ok, R.bind_ok]
  rfl
theorem sl_lo {m mc : ME} {ρ : DEnv} {d e : D} {k : Int} (h : m ρ = .ok d ρ) (hc : mc ρ = .ok (.int k) ρ) (q : cutD (some k) none d = some e) : mSl cutD (mV m) (mPart mc) mNoPart ρ = .ok e ρ := by
  rw [e_sl, e_V, h]
  simp only [R.bind_ok, e_noPart, e_part, hc, e_asI, e_getv, Option.bind_some, q, R.of_some]
theorem sl_hi {m mc : ME} {ρ : DEnv} {d e : D} {k : Int} (h : m ρ = .ok d ρ) (hc : mc ρ = .ok (.int k) ρ) (q : cutD none (some k) d = some e) : mSl cutD (mV m) mNoPart (mPart mc) ρ = .ok e ρ := by
  rw [e_sl, e_V, h]
  simp only [R.bind_ok, e_noPart, e_part, hc, e_asI, e_getv, Option.bind_some, q, R.of_some]
theorem mul_L {l : List D} {k : Nat} (hk : k ≤ 1000) (hl : l.length ≤ 1000) : mulD (.lst l) (.int (k : Nat)) = some (.lst (List.replicate k l).flatten) := by
  show (if 0 ≤ ((k : Nat) : Int) ∧ ((k : Nat) : Int) ≤ 1000 ∧ l.length ≤ 1000 then _ else _) = _
  rw [if_pos ⟨by omega, by omega, hl⟩, Int.toNat_natCast]
theorem sat_mono {α : Type} {r : R α} {P Q : α → DEnv → Prop} (h : Sat r P) (k : ∀ f ρ, P f ρ → Q f ρ) : Sat r Q := by
  obtain ⟨f, ρ, e, q⟩ := h
  exact ⟨f, ρ, e, k f ρ q⟩
theorem sat_tupO {t : MA} {ρ : DEnv} {Q : D → DEnv → Prop} (h : Sat (t ρ) fun ds ρ1 => ds.length ≤ 16777216 ∧ Q (.tup ds) ρ1) : Sat (mTup t ρ) Q := by
  obtain ⟨ds, ρ1, e, l, q⟩ := h
  exact ⟨_, _, by rw [e_tup, e, R.bind_ok, if_pos l], q⟩
structure Tale (v : D) (xs : List Str) (ss : SS) (m : Nat) : Prop where
  eq : v = .tup [.tup (xs.map .str), ssD ss]
  lx : xs.length ≤ m
  gx : GoodNs xs
  ls : ss.length ≤ 60
  mem : ∀ s ∈ ss, s.1 ∈ xs ∧ s.2 ∈ xs
theorem ix_tup {xs : List D} {i : Int} (h0 : 0 ≤ i) (h1 : i < xs.length) : ∃ a, xs[i.toNat]? = some a ∧ ixD (.tup xs) (.int i) = some a := ix_lst h0 h1
abbrev Tn (d : D) (m : Int) (nm sy : Option D) (a o t : Option D) : DEnv := [some d, some (.int m), nm, sy, a, o, t]
theorem tale_ok {m : Int} (h0 : 0 ≤ m) (h1 : m ≤ 10) : FS g__law_tale [.int m] fun v => ∃ xs ss, Tale v xs ss m.toNat := by
  refine fs_run (m := m__law_tale) (N := 7) fun d fd => ?_
  unfold m__law_tale
  obtain ⟨v, d1, e1, fd1, ⟨xs, ys, ps, rfl, lx, gx, py, hp, lp⟩⟩ := half_ok h0 h1 d fd
  obtain ⟨ss, rfl, hm⟩ := half_ss py hp
  rw [List.length_map] at lp
  refine sat_seq (sat_of (a := .nx) (ρ := Tn d1 m (some (.tup (xs.map .str))) (some (ssD ss)) none none none) (by simp [e1]; rfl) ⟨rfl, ?_⟩)
  have fin : ∀ (d : D) (ts : SS) (a o t : Option D), Feed d → (∀ s ∈ ts, s.1 ∈ xs ∧ s.2 ∈ xs) → Sat (mRet (mTup (mCons (mVar 2) (mCons (mSl cutD (mV (mVar 3)) mNoPart (mPart (mC (.int 60)))) mNil))) (Tn d m (some (.tup (xs.map .str))) (some (ssD ts)) a o t))
      fun f ρ => ∃ v d', f = .rt v ∧ ρ.take 1 = [some d'] ∧ Feed d' ∧ ∃ xs ss, Tale v xs ss m.toNat := by
    intro d ts a o t fd hts
    have ec : cutD none (some 60) (ssD ts) = some (ssD (ts.take 60)) := by
      show some (D.tup (cutL (ts.map prD) none (some 60))) = _
      rw [cut_to _ (by decide), ← List.map_take]; rfl
    refine sat_ret (sat_of (a := .tup [.tup (xs.map .str), ssD (ts.take 60)]) (ρ := Tn d m (some (.tup (xs.map .str))) (some (ssD ts)) a o t) (by simp [ec]) ⟨_, d, rfl, rfl, fd, xs, ts.take 60, rfl, lx, gx, by rw [List.length_take]; omega, fun s ms => hts s (List.mem_of_mem_take ms)⟩)
  by_cases hx : 0 < xs.length
  · obtain ⟨r, d2, e2, fd2, r0, r1⟩ := draw_ok (n := 2) fd1 (by decide) (by decide)
    have hx' : (0 : Int) < xs.length := by omega
    by_cases hr : r = 0
    · refine sat_seq (sat_ifS (sat_of (a := true) (ρ := Tn d2 m (some (.tup (xs.map .str))) (some (ssD ss)) none none none) (by simp [lenD, hx, hx', e2, hr]) ?_))
      rw [if_pos rfl]
      refine sat_seq (sat_set (sat_draw (d := d2) (n := (ss.length : Int) + 1) rfl fd2 (by simp [ssD, lenD]) (by omega) (by omega) fun a d3 a0 a1 fd3 => ⟨rfl, ?_⟩))
      refine sat_seq (sat_set (sat_op2r (d := .tup (xs.map .str)) rfl (sat_draw (d := d3) (n := (xs.length : Int)) rfl fd3 (by simp [lenD]) (by omega) (by omega) fun p d4 p0 p1 fd4 => ?_)))
      obtain ⟨x, ex, ex2⟩ := ix_tup (xs := xs.map D.str) p0 (by rw [List.length_map]; exact p1)
      obtain ⟨x, hxm, rfl⟩ := List.mem_map.mp (List.mem_of_getElem? ex)
      refine ⟨_, ex2, rfl, ?_⟩
      refine sat_seq (sat_set (sat_op2r (d := .tup (xs.map .str)) rfl (sat_draw (d := d4) (n := (xs.length : Int)) rfl fd4 (by simp [lenD]) (by omega) (by omega) fun q d5 q0 q1 fd5 => ?_)))
      obtain ⟨y, ey, ey2⟩ := ix_tup (xs := xs.map D.str) q0 (by rw [List.length_map]; exact q1)
      obtain ⟨y, hym, rfl⟩ := List.mem_map.mp (List.mem_of_getElem? ey)
      refine ⟨_, ey2, rfl, ?_⟩
      change Sat (mSet 3 _ (Tn d5 m (some (.tup (xs.map .str))) (some (ssD ss)) (some (.int a)) (some (.str x)) (some (.str y)))) _
      have c1 : cutD none (some a) (ssD ss) = some (ssD (ss.take a.toNat)) := by
        show some (D.tup (cutL (ss.map prD) none (some a))) = _
        rw [cut_to _ a0, ← List.map_take]; rfl
      have c2 : cutD (some a) none (ssD ss) = some (ssD (ss.drop a.toNat)) := by
        show some (D.tup (cutL (ss.map prD) (some a) none)) = _
        rw [cut_from _ a0, ← List.map_drop]; rfl
      have d1' : addD (ssD (ss.take a.toNat)) (.tup [.tup [.str x, .str y]]) = some (ssD (ss.take a.toNat ++ [(x, y)])) := by
        show (if ((ss.take a.toNat).map prD).length + [D.tup [.str x, .str y]].length ≤ 16777216 then _ else _) = _
        rw [if_pos (by rw [List.length_map, List.length_take, List.length_singleton]; omega)]
        unfold ssD
        rw [List.map_append]; rfl
      have d2' : addD (ssD (ss.take a.toNat ++ [(x, y)])) (ssD (ss.drop a.toNat)) = some (ssD (ss.take a.toNat ++ [(x, y)] ++ ss.drop a.toNat)) := by
        show (if ((ss.take a.toNat ++ [(x, y)]).map prD).length + ((ss.drop a.toNat).map prD).length ≤ 16777216 then _ else _) = _
        rw [if_pos (by rw [List.length_map, List.length_map, List.length_append, List.length_take, List.length_drop, List.length_singleton]; omega)]
        unfold ssD
        rw [← List.map_append]
      refine sat_set (sat_of (a := ssD (ss.take a.toNat ++ [(x, y)] ++ ss.drop a.toNat)) (ρ := Tn d5 m (some (.tup (xs.map .str))) (some (ssD ss)) (some (.int a)) (some (.str x)) (some (.str y))) (by simp [c1, c2, d1', d2']) ⟨rfl, fin d5 _ _ _ _ fd5 fun s ms => ?_⟩)
      rcases List.mem_append.mp ms with ms | ms
      · rcases List.mem_append.mp ms with ms | ms
        · exact hm s (List.mem_of_mem_take ms)
        · cases List.mem_singleton.mp ms; exact ⟨hxm, hym⟩
      · exact hm s (List.mem_of_mem_drop ms)
    · refine sat_seq (sat_ifS (sat_of (a := false) (ρ := Tn d2 m (some (.tup (xs.map .str))) (some (ssD ss)) none none none) (by simp [lenD, hx, hx', e2, hr]) ?_))
      rw [if_neg Bool.false_ne_true]
      exact sat_of rfl ⟨rfl, fin d2 ss _ _ _ fd2 hm⟩
  · have hx' : ¬ (0 : Int) < xs.length := by omega
    exact sat_skip (by simp [lenD, hx, hx']) (fin d1 ss _ _ _ fd1 hm)
def inX (xs : List Str) : D → Bool
  | .str x => decide (x ∈ xs)
  | _ => false
theorem inX_isS {xs : List Str} {d : D} (h : inX xs d = true) : isS d = true := by
  cases d with
  | str x => rfl
  | _ => cases h
theorem str_inj : ∀ {l m : List Str}, l.map D.str = m.map D.str → l = m := fun {l m} e => by
  have e2 := asStrs_map l
  rw [e, asStrs_map] at e2
  exact (Option.some.inj e2).symm
theorem all_inX {xs : List Str} {ds : List D} (h : ds.all (inX xs) = true) : ∃ l : List Str, ds = l.map .str ∧ ∀ a ∈ l, a ∈ xs := by
  rw [List.all_eq_true] at h
  obtain ⟨l, rfl⟩ := strs_all fun d m => inX_isS (h d m)
  exact ⟨l, rfl, fun a m => of_decide_eq_true (h (.str a) (List.mem_map.mpr ⟨a, m, rfl⟩))⟩
theorem all_inX' {xs : List Str} {l : List Str} (h : ∀ a ∈ l, a ∈ xs) : (l.map D.str).all (inX xs) = true := by
  rw [List.all_eq_true]
  intro d m
  obtain ⟨a, ma, rfl⟩ := List.mem_map.mp m
  exact decide_eq_true (h a ma)
theorem eq_lens (a b : Nat) : eqD (.int (a : Nat)) (.int (b : Nat)) = some (.bl (decide (a = b))) := by
  rw [d_eqI]
  congr 2
  rw [decide_eq_decide]
  omega
theorem all_blsM {α : Type} (f : α → Bool) (l : List α) : allD (.lst (l.map fun d => .bl (f d))) = some (.bl (l.all f)) := by
  show (asBls (l.map fun d => .bl (f d))).bind _ = _
  rw [asBls_map, Option.bind_some]
  congr 2
  rw [List.all_map]; rfl
theorem any_blsM {α : Type} (f : α → Bool) (l : List α) : anyD (.lst (l.map fun d => .bl (f d))) = some (.bl (l.any f)) := by
  show (asBls (l.map fun d => .bl (f d))).bind _ = _
  rw [asBls_map, Option.bind_some]
  congr 2
  rw [List.any_map]; rfl
theorem in_blsM {α : Type} (c : Bool) (f : α → Bool) (l : List α) : inD (.bl c) (.lst (l.map fun d => .bl (f d))) = some (.bl (l.any fun d => f d == c)) := by
  have := in_bls c (l.map f)
  rw [List.map_map, List.any_map] at this
  exact this
abbrev LET : Str := "abcdefghijklmnopqrstuvwxyz"
def hasL (c : Nat) : Bool := !(Builtin.Str.occurrences LET ⟨#[c]⟩ 0 LET.length 1).isEmpty
def isN (x : Str) : Bool := decide (1 ≤ x.length) && decide (x.length ≤ 8) && x.cps.toList.all hasL
theorem signs_len (x : Str) : (signs x).length = x.length := by unfold signs; rw [List.length_map, Array.length_toList]; rfl
theorem name_str (x : Str) : g_is_name [.str x] = .ok (.bl (isN x)) [] := by
  by_cases h : 1 ≤ x.length ∧ x.length ≤ 8
  · have lc := mLc_one (ρ := [some (.str x), none]) (ma := mSs (mVar 0)) (elt := mOp2 inD (mV (mVar 1)) (mV (mC (.str LET)))) (i := 1) (ds := signs x) (fun d => (inD d (.str LET)).getD .non) (by simp) (by rw [signs_len]; omega) (by simp) (fun d m => by
      obtain ⟨c, _, rfl⟩ := List.mem_map.mp m
      simp [inD, inB])
    have e : (signs x).map (fun d => (inD d (.str LET)).getD .non) = x.cps.toList.map fun c => .bl (hasL c) := by
      unfold signs
      rw [List.map_map]
      rfl
    rw [e] at lc
    have h1 : (1 : Int) ≤ x.length := by omega
    have h2 : (x.length : Int) ≤ 8 := by omega
    simp [g_is_name, m_is_name, isi_str, lenD, h.1, h.2, h1, h2, lc, allD, D.memL, asBls_map, R.noEx, isN, Function.comp_def]
  · have : isN x = false := by
      unfold isN
      by_cases h1 : 1 ≤ x.length
      · have : ¬ x.length ≤ 8 := fun z => h ⟨h1, z⟩
        simp [this]
      · simp [h1]
    rw [this]
    by_cases h1 : 1 ≤ x.length
    · have h2 : ¬ x.length ≤ 8 := fun z => h ⟨h1, z⟩
      have h2' : ¬ (x.length : Int) ≤ 8 := by omega
      have h1' : (1 : Int) ≤ x.length := by omega
      simp [g_is_name, m_is_name, isi_str, lenD, h1', h2', R.noEx]
    · have h1' : ¬ (1 : Int) ≤ x.length := by omega
      simp [g_is_name, m_is_name, isi_str, lenD, h1', R.noEx]
/-! ### names, sayings: the program alone -/
def nmB : D → Bool
  | .str x => isN x
  | _ => false
theorem name_noP {d : D} (h : isiD d (.ty "str") = some (.bl false)) : g_is_name [d] = .ok (.bl false) [] := by simp [g_is_name, m_is_name, h, R.noEx]
theorem name_any {d : D} (h : d.plb = true) : g_is_name [d] = .ok (.bl (nmB d)) [] := by
  have e := (plb_elt h).isi
  cases hS : isS d with
  | true =>
    obtain ⟨x, rfl⟩ : ∃ x, d = .str x := by cases d <;> first | exact ⟨_, rfl⟩ | cases hS
    exact name_str x
  | false =>
    rw [hS] at e
    have : nmB d = false := by cases d <;> first | rfl | cases hS
    rw [this]
    exact name_noP e
theorem names_true {xs : List Str} (ha : ∀ x ∈ xs, asc x = true) (hx : ∀ x ∈ xs, isN x = true) (nd : xs.Nodup) (c : xs.length ≤ 10) : g_are_names [.tup (xs.map .str)] = .ok (.bl true) [] := by
  have t1 : mTest (mOpN (two isiD) (mOCons (mV (mVar 0)) (mOCons (mV (mC (.ty "tuple"))) mONil))) [some (.tup (xs.map .str)), none] = .ok true [some (.tup (xs.map .str)), none] := test_val (two_opS rfl rfl (isi_tup _))
  have ln : lenD (.tup (xs.map .str)) = some (.int (xs.length : Nat)) := by
    show some (D.int ((xs.map D.str).length : Nat)) = _
    rw [List.length_map]
  have t2 := test_val (op2_val (f := gtD) (mb := mC (.int 10)) (len_opS (m := mVar 0) (ρ := [some (.tup (xs.map .str)), none]) rfl ln) rfl (d_gt _ _))
  rw [decide_eq_false (by omega)] at t2
  have lc1 := lc_vmap (R := xs) (ma := mTs (mVar 0)) (elt := mCall0 1 g_is_name (mCons (mVar 1) mNil)) (i := 1) (ρ := [some (.tup (xs.map .str)), none]) .str (fun d => .bl (isN d)) (ts_val rfl) (by omega) (by simp) fun d m => call0_1 rfl (name_str d)
  have a1 := len_opS lc1 (all_blsM isN xs)
  rw [List.all_eq_true.mpr hx] at a1
  obtain ⟨n, e1, e2⟩ := lset_strs xs (by omega)
  have q := op2_val (len_opS (m := mVar 0) (ρ := [some (.tup (xs.map .str)), none]) rfl e1) (len_opS (f := lenD) (m := mVar 0) rfl ln) (eq_lens n xs.length)
  rw [decide_eq_true (e2.mpr nd)] at q
  refine run0 (m := m_are_names) (N := 2) ?_
  unfold m_are_names
  change Sat (mSeq _ _ [some (.tup (xs.map .str)), none]) _
  exact sat_skip (or_ff (not_t t1) t2) (sat_ret (sat_of (andV_b (b := true) (c := true) a1 fun _ => q) rfl))
/-! ### a saying -/
def syB (xs : List Str) : D → Bool
  | .tup ds => decide (ds.length = 2) && ds.all (inX xs)
  | _ => false
theorem syB_pr {xs : List Str} {d : D} (h : syB xs d = true) : ∃ s : Str × Str, d = prD s ∧ s.1 ∈ xs ∧ s.2 ∈ xs := by
  cases d with
  | tup ds =>
    have h' : (decide (ds.length = 2) && ds.all (inX xs)) = true := h
    rw [Bool.and_eq_true, decide_eq_true_eq] at h'
    obtain ⟨l, rfl, hl⟩ := all_inX h'.2
    have e := h'.1
    rw [List.length_map] at e
    match l, e, hl with
    | [a, b], _, hl => exact ⟨(a, b), rfl, hl a (by simp), hl b (by simp)⟩
  | _ => cases h
theorem saying_any {xs : List Str} (hx : ∀ x ∈ xs, isN x = true) {d : D} (h : d.plb = true) : g_is_saying [.tup (xs.map .str), d] = .ok (.bl (syB xs d)) [] := by
  have et := plb_tuple h
  have t1 : mTest (mOpN (two isiD) (mOCons (mV (mVar 1)) (mOCons (mV (mC (.ty "tuple"))) mONil))) [some (.tup (xs.map .str)), some d, none] = .ok (isTp d) [some (.tup (xs.map .str)), some d, none] := test_val (two_opS rfl rfl et)
  cases hT : isTp d with
  | false =>
    rw [hT] at t1
    have : syB xs d = false := by cases d <;> first | rfl | cases hT
    rw [this]
    refine run0 (m := m_is_saying) (N := 3) ?_
    · unfold m_is_saying
      change Sat (mSeq _ _ [some (.tup (xs.map .str)), some d, none]) _
      exact sat_seqB (sat_ifT (or_b (b := true) (c := true) (not_f t1) fun z => by cases z) (sat_ret (sat_of (a := .bl false) (ρ := [some (.tup (xs.map .str)), some d, none]) rfl (.inr ⟨_, rfl, rfl⟩))))
  | true =>
    rw [hT] at t1
    obtain ⟨ds, rfl⟩ : ∃ ds, d = .tup ds := by cases d <;> first | exact ⟨_, rfl⟩ | cases hT
    rw [D.plb] at h
    have hm := plbL_mem h
    have t2 : mTest (mOp2 neD (mV (mOpN (one lenD) (mOCons (mV (mVar 1)) mONil))) (mV (mC (.int 2)))) [some (.tup (xs.map .str)), some (.tup ds), none] = .ok (!decide (((ds.length : Nat) : Int) = 2)) [some (.tup (xs.map .str)), some (.tup ds), none] := test_val (op2_val (len_opS rfl rfl) rfl (ne_int _ _))
    by_cases c : ds.length = 2
    · rw [decide_eq_true (by omega), Bool.not_true] at t2
      have sy : syB xs (.tup ds) = ds.all (inX xs) := by
        show (decide (ds.length = 2) && ds.all (inX xs)) = _
        rw [decide_eq_true c, Bool.true_and]
      rw [sy]
      have inn : ∀ (ρ : DEnv) (e : D), ρ[0]? = some (some (.tup (xs.map .str))) → ρ[2]? = some (some e) → isS e = true → mOp2 inD (mV (mVar 2)) (mV (mVar 0)) ρ = .ok (.bl (inX xs e)) ρ := fun ρ e h0 h2 hS => by
        obtain ⟨x, rfl⟩ : ∃ x, e = .str x := by cases e <;> first | exact ⟨_, rfl⟩ | cases hS
        exact op2_val (by rw [e_var, h2]; rfl) (by rw [e_var, h0]; rfl) (in_strsT x xs)
      have lc1 := lc_vmap (R := ds) (ma := mTs (mVar 1)) (elt := mAndV (mCall0 1 g_is_name (mCons (mVar 2) mNil)) (mOp2 inD (mV (mVar 2)) (mV (mVar 0)))) (i := 2) (ρ := [some (.tup (xs.map .str)), some (.tup ds), none]) id (fun d => .bl (inX xs d)) (by rw [List.map_id]; exact ts_val rfl) (by omega) (by simp) fun e m => by
        have r := andV_b (b := nmB e) (c := inX xs e) (n := mOp2 inD (mV (mVar 2)) (mV (mVar 0))) (call0_1 (m := mVar 2) (ρ := [some (.tup (xs.map .str)), some (.tup ds), some e]) rfl (name_any (hm e m))) fun z => inn _ e rfl rfl (by cases e <;> first | rfl | cases z)
        have : (nmB e && inX xs e) = inX xs e := by
          cases e with
          | str x =>
            show (isN x && decide (x ∈ xs)) = decide (x ∈ xs)
            by_cases mx : x ∈ xs
            · rw [hx x mx, Bool.true_and]
            · rw [decide_eq_false mx, Bool.and_false]
          | _ => rfl
        rw [this] at r
        exact r
      have a1 := len_opS lc1 (all_blsM (inX xs) ds)
      refine run0 (m := m_is_saying) (N := 3) ?_
      · unfold m_is_saying
        change Sat (mSeq _ _ [some (.tup (xs.map .str)), some (.tup ds), none]) _
        exact sat_skip (or_ff (not_t t1) t2) (sat_ret (sat_of a1 rfl))
    · rw [decide_eq_false (by omega), Bool.not_false] at t2
      have sy : syB xs (.tup ds) = false := by
        show (decide (ds.length = 2) && ds.all (inX xs)) = _
        rw [decide_eq_false c, Bool.false_and]
      rw [sy]
      refine run0 (m := m_is_saying) (N := 3) ?_
      · unfold m_is_saying
        change Sat (mSeq _ _ [some (.tup (xs.map .str)), some (.tup ds), none]) _
        exact sat_seqB (sat_ifT (or_b (b := false) (c := true) (not_t t1) fun _ => t2) (sat_ret (sat_of (a := .bl false) (ρ := [some (.tup (xs.map .str)), some (.tup ds), none]) rfl (.inr ⟨_, rfl, rfl⟩))))
theorem if_nx {c : MT} {m : MS} {ρ : DEnv} (h : c ρ = .ok false ρ) : mIfS c m mNx ρ = .ok .nx ρ := by
  rw [e_ifS, h, R.bind_ok, if_neg Bool.false_ne_true]; rfl
theorem set_val {i : Nat} {m : ME} {ρ : DEnv} {d : D} (h : m ρ = .ok d ρ) : mSet i m ρ = .ok .nx (ρ.set i (some d)) := by
  rw [e_set, h]; rfl
theorem op1_S {f : D → Option D} {i : Nat} {ρ : DEnv} {d v : D} (h : ρ[i]? = some (some d)) (e : f d = some v) : mOp1 f (mS i) ρ = .ok v ρ := by
  rw [e_op1, e_S, h]
  show (R.of (((ρ[i]?).bind id).bind f) ρ) = _
  rw [h]
  show R.of (f d) ρ = _
  rw [e]; rfl
theorem op2_sv {i : Nat} {f : D → D → Option D} {m : ME} {ρ : DEnv} {d e v : D} (h : ρ[i]? = some (some d)) (h2 : m ρ = .ok e ρ) (q : f d e = some v) : mOp2 f (mS i) (mV m) ρ = .ok v ρ := by
  rw [e_op2, e_S]
  simp only [h, Option.bind_some, id, R.of_some, R.bind_ok, e_V, h2, e_gets, e_getv, q]
theorem ne_strsL (l m : List Str) : neD (.lst (l.map .str)) (.lst (m.map .str)) = some (.bl (!decide (l = m))) := by
  obtain ⟨b, e1, e2⟩ := neD_pln (d := .lst (l.map .str)) (e := .lst (m.map .str)) (pln_lst (pln_strs l)) (pln_lst (pln_strs m)) (Nat.le_trans (Nat.min_le_left _ _) (Nat.le_trans (dep_lst (k := 0) fun d md => by obtain ⟨x, _, rfl⟩ := List.mem_map.mp md; rw [dep_str]; exact Nat.le_refl _) (by decide)))
  rw [e1]
  have : b = decide (l = m) := by
    rw [Bool.eq_iff_iff, e2, decide_eq_true_iff]
    exact ⟨fun z => by
      have e := D.lst.inj z
      have e3 := asStrs_map l
      rw [e, asStrs_map] at e3
      exact (Option.some.inj e3).symm, fun z => by rw [z]⟩
  rw [this]
/-! ### texts cut at blanks, and put together -/
theorem join_two (a x y : Str) (r : List Str) : (Str.join a (x :: y :: r)).cps.toList = x.cps.toList ++ a.cps.toList ++ (Str.join a (y :: r)).cps.toList := by
  have e : Str.join a (x :: y :: r) = x ++ a ++ Str.join a (y :: r) := rfl
  rw [e]
  show (x.cps ++ a.cps ++ (Str.join a (y :: r)).cps).toList = _
  rw [Array.toList_append, Array.toList_append]
theorem mem_join (a : Str) : ∀ (ys : List Str) {p : Str} {c : Nat}, p ∈ ys → c ∈ p.cps.toList → c ∈ (Str.join a ys).cps.toList
  | [x], p, c, m, h => by
    rw [List.mem_singleton.mp m] at h
    exact h
  | x :: y :: r, p, c, m, h => by
    rw [join_two]
    rcases List.mem_cons.mp m with rfl | m
    · exact List.mem_append_left _ (List.mem_append_left _ h)
    · exact List.mem_append_right _ (mem_join a (y :: r) m h)
def TW (ws : List Str) : Nat := (ws.map (·.length)).sum + ws.length
theorem TW_app (a b : List Str) : TW (a ++ b) = TW a + TW b := by
  unfold TW
  rw [List.map_append, List.sum_append, List.length_append]; omega
theorem TW_one (a : Str) : TW [a] = a.length + 1 := by
  unfold TW
  simp
theorem TW_td (k : Nat) (a : List Str) : TW (a.take k) + TW (a.drop k) = TW a := by rw [← TW_app, List.take_append_drop]
theorem TW_rev : ∀ a : List Str, TW a.reverse = TW a
  | [] => rfl
  | x :: a => by
    have : TW (x :: a) = TW [x] + TW a := TW_app [x] a
    rw [List.reverse_cons, TW_app, TW_rev a, this]; omega
theorem TW_len (a : List Str) : a.length ≤ TW a := by unfold TW; omega
theorem TW_mem : ∀ {a : List Str} {x : Str}, x ∈ a → x.length + 1 ≤ TW a
  | y :: a, x, m => by
    have e : TW (y :: a) = TW [y] + TW a := TW_app [y] a
    rw [e, TW_one]
    rcases List.mem_cons.mp m with rfl | m
    · omega
    · have := TW_mem m; omega
abbrev BL : Str := " "
theorem bl1 : BL.length = 1 := by decide +kernel
theorem joinB_len (ws : List Str) : (Str.join BL ws).length + 1 ≤ TW ws + 1 := by
  have := size_glued BL ws
  rw [StrLaws.glued_eq_join, bl1] at this
  unfold TW
  omega
theorem join_len' {ws : List Str} (h : ws ≠ []) : (Str.join BL ws).length + 1 = TW ws := by
  have := size_glued BL ws
  rw [StrLaws.glued_eq_join, bl1] at this
  have : 0 < ws.length := List.length_pos_iff.mpr h
  unfold TW
  omega
theorem split_self (x : Str) : Txt.split x BL ≠ [] ∧ Str.join BL (Txt.split x BL) = x := by
  unfold Txt.split
  split
  · exact ⟨by simp, rfl⟩
  · split
    · exact ⟨by simp, rfl⟩
    · refine ⟨fun e => ?_, ?_⟩
      · have := length_partsBetween x (Builtin.Str.occurrences x BL 0 x.length (x.length + 1)) BL.length
        rw [e] at this
        simp at this
      · rw [← StrLaws.glued_eq_join]
        exact StrLaws.glued_between_self x BL (x.length + 1)
theorem split_tw (x : Str) : TW (Txt.split x BL) = x.length + 1 := by
  obtain ⟨h1, h2⟩ := split_self x
  have := join_len' h1
  rw [h2] at this
  exact this.symm
theorem split_asc {x : Str} (h : asc x = true) {p : Str} (m : p ∈ Txt.split x BL) : asc p = true := by
  obtain ⟨h1, h2⟩ := split_self x
  refine asc_mk (fun c hc => (ascE h).1 c ?_) ?_
  · rw [← h2]
    exact mem_join _ _ m hc
  · have := TW_mem m
    rw [split_tw] at this
    have := (ascE h).2
    omega
theorem split_val {m : ME} {ρ : DEnv} {x : Str} (h : m ρ = .ok (.str x) ρ) (a : asc x = true) (l : x.length ≤ 1000000) : mM1 splitD m (mV (mC (.str BL))) ρ = .ok (.lst ((Txt.split x BL).map .str)) ρ := by
  have q : splitD (.str x) (.str BL) = some (.lst ((Txt.split x BL).map .str)) := if_pos ⟨by decide +kernel, by rw [sizeLine_eq]; omega, List.all_eq_true.mpr fun p m => split_asc a m⟩
  unfold mM1
  rw [h, R.bind_ok]
  show R.of (splitD (.str x) (.str BL)) ρ = _
  rw [q]; rfl
theorem join_val {m : ME} {ρ : DEnv} {ws : List Str} (h : m ρ = .ok (.lst (ws.map .str)) ρ) (l : TW ws ≤ 1000000) : mM1 joinD (mC (.str BL)) (mV m) ρ = .ok (.str (Str.join BL ws)) ρ := by
  have q : joinD (.str BL) (.lst (ws.map .str)) = some (.str (Str.join BL ws)) := by
    show (asStrs (ws.map .str)).bind _ = _
    rw [asStrs_map, Option.bind_some, if_pos (by unfold sj; rw [bl1]; unfold TW at l; omega)]
    rw [TL.join_eq]
  unfold mM1
  rw [e_C, R.bind_ok]
  show ((mV m) ρ).bind _ = _
  rw [e_V, h]
  show R.of (joinD (.str BL) (.lst (ws.map .str))) ρ = _
  rw [q]; rfl
theorem join_ascB {ws : List Str} (h : ∀ x ∈ ws, asc x = true) (l : TW ws ≤ 1000000) : asc (Str.join BL ws) = true := by
  obtain ⟨j1, _⟩ := join_asc (a := BL) (by decide +kernel) ws h
  exact asc_mk j1 (by have := joinB_len ws; omega)
/-- lines: how many, how long -/
structure Lin (B n : Nat) (ls : List Str) : Prop where
  sz : ls.length ≤ n
  ln : ∀ x ∈ ls, asc x = true ∧ x.length ≤ B
theorem pln_strL (l : List Str) : (D.lst (l.map .str)).pln = true := pln_lst (pln_strs l)
theorem dep_strL (l : List Str) : (D.lst (l.map .str)).toPy.depth ≤ 1 := dep_lst (k := 0) fun d m => by obtain ⟨x, _, rfl⟩ := List.mem_map.mp m; rw [dep_str]; exact Nat.le_refl _
theorem eq_strL (l : List Str) : eqD (.lst (l.map .str)) (.lst (l.map .str)) = some (.bl true) := by
  obtain ⟨c, e1, e2⟩ := eqD_pln (pln_strL l) (pln_strL l) (Nat.le_trans (Nat.min_le_right _ _) (Nat.le_trans (dep_strL l) (by decide)))
  rw [e1, e2.mpr rfl]
theorem ne_nilS (l : List Str) : neD (.lst (l.map .str)) (.lst []) = some (.bl (!decide (l = []))) := by
  obtain ⟨b, e1, e2⟩ := neD_pln (d := .lst (l.map .str)) (e := .lst []) (pln_strL l) (pln_lst (xs := []) (by rw [plnL])) (Nat.le_trans (Nat.min_le_left _ _) (Nat.le_trans (dep_strL l) (by decide)))
  rw [e1]
  have : b = decide (l = []) := by
    rw [Bool.eq_iff_iff, e2, decide_eq_true_iff]
    exact ⟨fun z => List.map_eq_nil_iff.mp (D.lst.inj z), fun z => by rw [z]; rfl⟩
  rw [this]
/-! ### words put together and cut again -/
theorem bl_list : BL.cps.toList = [32] := by decide +kernel
theorem at_bl (x : Str) (i : Nat) : Builtin.Str.subAt x BL i = true ↔ x.cps.toList[i]? = some 32 := by
  rw [StrLaws.subAt_eq, bl_list, bl1, beq_iff_eq]
  constructor
  · intro h
    have : ((x.cps.toList.drop i).take 1)[0]? = some 32 := by rw [h]; rfl
    rw [List.getElem?_take_of_lt Nat.zero_lt_one, List.getElem?_drop, Nat.add_zero] at this
    exact this
  · intro h
    obtain ⟨hl, e⟩ := List.getElem?_eq_some_iff.mp h
    rw [List.drop_eq_getElem_cons hl, e]; rfl
theorem occ_count (x : Str) (hi limit : Nat) (hhi : hi = x.length) : ∀ (m a : Nat) (st : Array Nat × Nat), st.snd ≤ a → st.fst.size + m ≤ limit →
    (forIn (List.range' a m) st (StrLaws.occBody x BL hi limit)).run.fst.size = st.fst.size + (List.range' a m).countP fun i => decide (x.cps.toList[i]? = some 32)
  | 0, a, st, _, _ => rfl
  | m + 1, a, st, h1, h2 => by
    rw [List.range'_succ, List.forIn_cons, List.countP_cons]
    unfold StrLaws.occBody
    split
    · rename_i hc
      have c := (at_bl x a).mp hc.2
      refine (occ_count x hi limit hhi m (a + 1) (st.fst.push a, a + BL.length) (by rw [bl1]; exact Nat.le_refl _) (by show (st.fst.push a).size + m ≤ limit; rw [Array.size_push]; omega)).trans ?_
      show (st.fst.push a).size + _ = _
      rw [Array.size_push, if_pos (decide_eq_true c)]; omega
    · rename_i hc
      have c : ¬ x.cps.toList[a]? = some 32 := fun c => by
        obtain ⟨hl, _⟩ := List.getElem?_eq_some_iff.mp c
        rw [Array.length_toList] at hl
        exact hc ⟨⟨⟨by omega, h1⟩, by rw [bl1, hhi]; exact hl⟩, (at_bl x a).mpr c⟩
      refine (occ_count x hi limit hhi m (a + 1) st (by omega) (by omega)).trans ?_
      rw [if_neg (fun z => c (of_decide_eq_true z))]; omega
theorem cnt_range : ∀ (X : List Nat) (a : Nat) (f : Nat → Option Nat), (∀ i, f (a + i) = X[i]?) → (List.range' a (X.length + 1)).countP (fun i => decide (f i = some 32)) = X.count 32
  | [], a, f, h => by
    have h0 : f a = none := h 0
    show ([a] : List Nat).countP _ = 0
    rw [List.countP_cons, List.countP_nil, h0]; rfl
  | c :: X, a, f, h => by
    have h0 : f a = some c := h 0
    rw [List.length_cons, List.range'_succ, List.countP_cons, cnt_range X (a + 1) f (fun i => by
      have := h (i + 1)
      rw [List.getElem?_cons_succ] at this
      rw [← this]
      congr 1
      omega), List.count_cons, h0]
    by_cases e : c = 32
    · rw [e]; rfl
    · rw [if_neg (fun z => e (Option.some.inj (of_decide_eq_true z))), if_neg (fun z => e (beq_iff_eq.mp z))]
theorem occ_len (x : Str) : (Builtin.Str.occurrences x BL 0 x.length (x.length + 1)).length = x.cps.toList.count 32 := by
  rw [StrLaws.occ_eq, Array.length_toList, occ_count x x.length (x.length + 1) rfl (x.length + 1 - 0) 0 (#[], 0) (Nat.le_refl _) (by show 0 + _ ≤ _; omega)]
  have := cnt_range x.cps.toList 0 (fun i => x.cps.toList[i]?) fun i => by rw [Nat.zero_add]
  rw [Array.length_toList] at this
  show 0 + _ = _
  rw [Nat.zero_add, Nat.sub_zero]
  exact this
theorem kind_ge (x : Str) : ¬ Builtin.Str.strKind x < Builtin.Str.strKind BL := by
  have : Builtin.Str.strKind BL = 1 := by decide +kernel
  rw [this]
  unfold Builtin.Str.strKind
  split
  · omega
  · split <;> omega
theorem split_len (x : Str) : (Txt.split x BL).length = x.cps.toList.count 32 + 1 := by
  unfold Txt.split
  split
  · rename_i h
    rw [decide_eq_false (kind_ge x), Bool.or_false, decide_eq_true_eq, bl1] at h
    have e : x.cps.toList = [] := List.length_eq_zero_iff.mp (by rw [Array.length_toList]; exact Nat.lt_one_iff.mp h)
    rw [e]; rfl
  · split
    · rename_i h
      have := occ_len x
      rw [List.isEmpty_iff.mp h] at this
      rw [← this]; rfl
    · rw [length_partsBetween, occ_len]
def nB (w : Str) : Nat := w.cps.toList.count 32
theorem join_count : ∀ {ws : List Str}, ws ≠ [] → nB (Str.join BL ws) + 1 = (ws.map nB).sum + ws.length
  | [x], _ => by
    show nB x + 1 = (nB x + 0) + 1
    rfl
  | x :: y :: r, _ => by
    have ih := join_count (ws := y :: r) (by simp)
    have e : nB (Str.join BL (x :: y :: r)) = nB x + 1 + nB (Str.join BL (y :: r)) := by
      unfold nB
      rw [join_two, List.count_append, List.count_append, bl_list]; rfl
    rw [e, List.map_cons, List.sum_cons, List.length_cons]
    omega
theorem mem_sum : ∀ {l : List Nat} {n : Nat}, n ∈ l → n ≤ l.sum
  | x :: l, n, m => by
    rw [List.sum_cons]
    rcases List.mem_cons.mp m with rfl | m
    · omega
    · have := mem_sum m; omega
theorem split_free {x p : Str} (m : p ∈ Txt.split x BL) : 32 ∉ p.cps.toList := by
  obtain ⟨h1, h2⟩ := split_self x
  have h3 := join_count h1
  rw [h2, split_len] at h3
  have h4 := mem_sum (List.mem_map_of_mem (f := nB) m)
  have : nB p = 0 := by unfold nB at h3 h4 ⊢; omega
  exact List.count_eq_zero.mp this
theorem app_free : ∀ {A B C D : List Nat}, 32 ∉ A → 32 ∉ B → A ++ 32 :: C = B ++ 32 :: D → A = B ∧ C = D
  | [], [], C, D, _, _, e => ⟨rfl, (List.cons.inj e).2⟩
  | [], b :: B, C, D, _, hb, e => by
    have := (List.cons.inj e).1
    exact absurd (by rw [this]; exact List.mem_cons_self) hb
  | a :: A, [], C, D, ha, _, e => by
    have := (List.cons.inj e).1
    exact absurd (by rw [← this]; exact List.mem_cons_self) ha
  | a :: A, b :: B, C, D, ha, hb, e => by
    obtain ⟨e1, e2⟩ := List.cons.inj e
    obtain ⟨h1, h2⟩ := app_free (fun m => ha (List.mem_cons_of_mem _ m)) (fun m => hb (List.mem_cons_of_mem _ m)) e2
    exact ⟨by rw [e1, h1], h2⟩
theorem strL_ext {a b : Str} (h : a.cps.toList = b.cps.toList) : a = b := Str.ext' (Array.toList_inj.mp h)
theorem join_inj : ∀ {A B : List Str}, A ≠ [] → B ≠ [] → (∀ w ∈ A, 32 ∉ w.cps.toList) → (∀ w ∈ B, 32 ∉ w.cps.toList) → (Str.join BL A).cps.toList = (Str.join BL B).cps.toList → A = B
  | [a], [b], _, _, _, _, e => by rw [strL_ext (a := a) (b := b) e]
  | [a], b :: b' :: r, _, _, ha, hb, e => by
    rw [join_two, bl_list] at e
    have e' : a.cps.toList = b.cps.toList ++ [32] ++ (Str.join BL (b' :: r)).cps.toList := e
    exact absurd (by rw [e']; simp) (ha a (by simp))
  | a :: a' :: r, [b], _, _, ha, hb, e => by
    rw [join_two, bl_list] at e
    have e' : a.cps.toList ++ [32] ++ (Str.join BL (a' :: r)).cps.toList = b.cps.toList := e
    exact absurd (by rw [← e']; simp) (hb b (by simp))
  | a :: a' :: r, b :: b' :: q, _, _, ha, hb, e => by
    rw [join_two, join_two, bl_list, List.append_assoc, List.append_assoc] at e
    obtain ⟨h1, h2⟩ := app_free (ha a (by simp)) (hb b (by simp)) e
    have := join_inj (A := a' :: r) (B := b' :: q) (by simp) (by simp) (fun w m => ha w (List.mem_cons_of_mem _ m)) (fun w m => hb w (List.mem_cons_of_mem _ m)) h2
    rw [strL_ext h1, this]
theorem split_join {ws : List Str} (ne : ws ≠ []) (fr : ∀ w ∈ ws, 32 ∉ w.cps.toList) : Txt.split (Str.join BL ws) BL = ws :=
  join_inj (split_self _).1 ne (fun _ m => split_free m) fr (by rw [(split_self (Str.join BL ws)).2])
/-! ### lines read: the program -/
def lsD (ls : List Str) : D := .lst (ls.map .str)
theorem ixS0 {l : List Str} {x : Str} {i : Nat} (h : l[i]? = some x) : ixD (.lst (l.map .str)) (.int (i : Nat)) = some (.str x) := by
  have := ix_lst (xs := l.map D.str) (i := (i : Nat)) (by omega) (by rw [List.length_map]; have := (List.getElem?_eq_some_iff.mp h).1; omega)
  obtain ⟨a, e1, e2⟩ := this
  rw [e2]
  rw [Int.toNat_natCast, List.getElem?_map, h] at e1
  exact e1.symm
theorem cut1 (l : List D) : cutD (some 1) none (.lst l) = some (.lst (l.drop 1)) := by
  show some (D.lst (cutL l (some 1) none)) = _
  rw [cut_from _ (by decide)]; rfl
theorem rest_val {m : ME} {ρ : DEnv} {a : Str} {r : List Str} (h : m ρ = .ok (.lst ((a :: r).map .str)) ρ) : mOp1 tupleD (mV (mSl cutD (mV m) (mPart (mC (.int 1))) mNoPart)) ρ = .ok (.tup (r.map .str)) ρ := op1_val (sl_lo h rfl (cut1 _)) rfl
theorem plb_strsT {l : List Str} (h : ∀ x ∈ l, asc x = true) : (D.tup (l.map .str)).plb = true := by
  rw [D.plb]
  refine plbL_all fun d m => ?_
  obtain ⟨x, mx, rfl⟩ := List.mem_map.mp m
  rw [D.plb]; exact h x mx
theorem ne_strV (x y : Str) : neD (.str x) (.str y) = some (.bl (!decide (x = y))) := ne_strD x y
def noT (n : Int) : Ex := ⟨"NoText", [("row", .int n)]⟩
def rokB (xs : List Str) : List Str → Bool
  | [a, b, c] => decide (a = "ahead") && (decide (b ∈ xs) && decide (c ∈ xs))
  | _ => false
def prow (w : List Str) : Str × Str := (w.getD 1 Str.empty, w.getD 2 Str.empty)
theorem rok_spec {xs : List Str} {w : List Str} (h : rokB xs w = true) : ∃ b c : Str, w = [("ahead" : Str), b, c] ∧ b ∈ xs ∧ c ∈ xs := by
  match w, h with
  | [a, b, c], h =>
    have h' : (decide (a = "ahead") && (decide (b ∈ xs) && decide (c ∈ xs))) = true := h
    rw [Bool.and_eq_true, Bool.and_eq_true, decide_eq_true_eq, decide_eq_true_eq, decide_eq_true_eq] at h'
    obtain ⟨rfl, h1, h2⟩ := h'
    exact ⟨b, c, rfl, h1, h2⟩
theorem syB_strs (xs r : List Str) : syB xs (.tup (r.map .str)) = (decide (r.length = 2) && r.all fun x => decide (x ∈ xs)) := by
  show (decide ((r.map D.str).length = 2) && (r.map D.str).all (inX xs)) = _
  rw [List.length_map, List.all_map]; rfl
theorem rok_sy (xs : List Str) (a : Str) (r : List Str) : (decide (a = "ahead") && syB xs (.tup (r.map .str))) = rokB xs (a :: r) := by
  rw [syB_strs]
  match r with
  | [] => rw [show decide (([] : List Str).length = 2) = false from rfl, Bool.false_and, Bool.and_false]; rfl
  | [b] => rw [show decide ([b].length = 2) = false from rfl, Bool.false_and, Bool.and_false]; rfl
  | [b, c] =>
    show (decide (a = "ahead") && (true && (decide (b ∈ xs) && (decide (c ∈ xs) && true)))) = _
    rw [Bool.true_and, Bool.and_true]; rfl
  | b :: c :: d :: r =>
    rw [show decide ((b :: c :: d :: r).length = 2) = false from decide_eq_false (by simp), Bool.false_and, Bool.and_false]; rfl
theorem rng2_ok {m : ME} {ρ : DEnv} {n : Nat} (h : m ρ = .ok (.int (n + 1 : Nat)) ρ) (hn : n + 1 ≤ 1000000) : mR2 (mCons (mC (.int 1)) (mCons m mNil)) ρ = .ok (rangeD 1 n) ρ := by
  rw [e_R2, e_cons, e_C, R.bind_ok, e_cons, h, R.bind_ok, e_nil, R.bind_ok, R.bind_ok, R.bind_ok, e_rng2, if_pos ⟨by omega, by omega, by omega, by omega⟩]
  have : (((n + 1 : Nat) : Int) - 1).toNat = n := by omega
  rw [this]
theorem rng1_at {n i : Nat} {d : D} (h : (rangeD 1 n)[i]? = some d) : i < n ∧ d = .int ((i + 1 : Nat) : Int) := by
  have hi : i < n := by
    have := (List.getElem?_eq_some_iff.mp h).1
    rwa [len_range] at this
  unfold rangeD at h
  rw [List.getElem?_map, List.getElem?_range hi] at h
  cases h
  exact ⟨hi, by show D.int (1 + (i : Int)) = _; congr 1; omega⟩
abbrev Rd (l w n s k y : Option D) : DEnv := [l, w, n, s, k, y]
theorem first_word (x : Str) : ∃ a r, Txt.split x BL = a :: r := by
  cases e : Txt.split x BL with
  | nil => exact absurd e (split_self x).1
  | cons a r => exact ⟨a, r, rfl⟩
theorem prow_test {xs : List Str} (hn : ∀ x ∈ xs, isN x = true) {a : Str} {r : List Str} (ha : ∀ x ∈ r, asc x = true) (l : D) (S : List D) (k : Option D) : mOr (mTest (mOp2 neD (mV (mOp2 ixD (mV (mVar 1)) (mV (mC (.int 0))))) (mV (mC (.str "ahead"))))) (mOr (mNot (mTest (mCall0 2 g_is_saying (mCons (mVar 2) (mCons (mVar 5) mNil))))) (mTest (mOp2 eqD (mV (mOpN (one lenD) (mOCons (mS 3) mONil))) (mV (mC (.int 60)))))) (Rd (some l) (some (.lst ((a :: r).map .str))) (some (.tup (xs.map .str))) (some (.lst S)) k (some (.tup (r.map .str)))) = .ok (!rokB xs (a :: r) || decide (((S.length : Nat) : Int) = 60)) (Rd (some l) (some (.lst ((a :: r).map .str))) (some (.tup (xs.map .str))) (some (.lst S)) k (some (.tup (r.map .str)))) := by
  have t1 := test_val (op2_val (f := neD) (mb := mC (.str "ahead")) (ρ := Rd (some l) (some (.lst ((a :: r).map .str))) (some (.tup (xs.map .str))) (some (.lst S)) k (some (.tup (r.map .str)))) (op2_val (ma := mVar 1) (mb := mC (.int 0)) rfl rfl (ixS0 (l := a :: r) (i := 0) rfl)) rfl (ne_strV a "ahead"))
  have t2 := not_b (test_val (call0_2 (m := mVar 2) (n := mVar 5) (ρ := Rd (some l) (some (.lst ((a :: r).map .str))) (some (.tup (xs.map .str))) (some (.lst S)) k (some (.tup (r.map .str)))) rfl rfl (saying_any hn (plb_strsT ha))))
  have t3 := test_val (op2_val (f := eqD) (mb := mC (.int 60)) (ρ := Rd (some l) (some (.lst ((a :: r).map .str))) (some (.tup (xs.map .str))) (some (.lst S)) k (some (.tup (r.map .str)))) (opo_val (i := 3) (f := lenD) (d := .lst S) (v := .int (S.length : Nat)) rfl rfl) rfl (d_eqI _ _))
  have := or_b t1 fun _ => or_b t2 fun _ => t3
  rw [← Bool.or_assoc, ← Bool.not_and, rok_sy] at this
  exact this
noncomputable abbrev condP : MT := mOr (mTest (mOp2 neD (mV (mOp2 ixD (mV (mVar 1)) (mV (mC (.int 0))))) (mV (mC (.str "ahead"))))) (mOr (mNot (mTest (mCall0 2 g_is_saying (mCons (mVar 2) (mCons (mVar 5) mNil))))) (mTest (mOp2 eqD (mV (mOpN (one lenD) (mOCons (mS 3) mONil))) (mV (mC (.int 60))))))
noncomputable abbrev bodyP : MS := mSeq (mSet 1 (mM1 splitD (mOp2 ixD (mV (mVar 0)) (mV (mVar 4))) (mV (mC (.str " ")))))
  (mSeq (mSet 5 (mOp1 tupleD (mV (mSl cutD (mV (mVar 1)) (mPart (mC (.int 1))) mNoPart))))
  (mSeq (mIfS condP (mRaise "NoText" ["row"] (mCons (mVar 4) mNil)) mNx)
  (mDrop (mMtL 3 appendD (mCons (mVar 5) mNil)))))
noncomputable abbrev rngL : MA := mR2 (mCons (mC (.int 1)) (mCons (mOpN (one lenD) (mOCons (mV (mVar 0)) mONil)) mNil))
def fR (x : Str) : D := prD (prow (Txt.split x BL))
theorem take_row {rs : List Str} {i : Nat} {x : Str} (h : rs[i]? = some x) : (rs.take (i + 1)).map fR = (rs.take i).map fR ++ [fR x] := by
  rw [List.take_succ, h, List.map_append]; rfl
section
variable {ls : List Str} {xs : List Str}
theorem row_pre {i : Nat} {x a : Str} {r : List Str} (hx : ls[i]? = some x) (ha : asc x = true) (hl : x.length ≤ 1000000) (es : Txt.split x BL = a :: r) (M : MS) (w n s y : Option D) : mSeq (mSet 1 (mM1 splitD (mOp2 ixD (mV (mVar 0)) (mV (mVar 4))) (mV (mC (.str " "))))) (mSeq (mSet 5 (mOp1 tupleD (mV (mSl cutD (mV (mVar 1)) (mPart (mC (.int 1))) mNoPart)))) M) (Rd (some (lsD ls)) w n s (some (.int (i : Nat))) y) = M (Rd (some (lsD ls)) (some (.lst ((a :: r).map .str))) n s (some (.int (i : Nat))) (some (.tup (r.map .str)))) := by
  have e1 := split_val (m := mOp2 ixD (mV (mVar 0)) (mV (mVar 4))) (ρ := Rd (some (lsD ls)) w n s (some (.int (i : Nat))) y) (op2_val rfl rfl (ixS0 hx)) ha hl
  rw [es] at e1
  rw [e_seq, set_val e1, R.bind_ok]
  show mSeq (mSet 5 _) M (Rd (some (lsD ls)) (some (.lst ((a :: r).map .str))) n s (some (.int (i : Nat))) y) = _
  have e2 := rest_val (m := mVar 1) (ρ := Rd (some (lsD ls)) (some (.lst ((a :: r).map .str))) n s (some (.int (i : Nat))) y) (a := a) (r := r) rfl
  rw [e_seq, set_val e2, R.bind_ok]
  rfl
theorem rowP_good (hn : ∀ x ∈ xs, isN x = true) {i : Nat} {x : Str} (hx : ls[i]? = some x) (ha : asc x = true) (hl : x.length ≤ 1000000) (ok : rokB xs (Txt.split x BL) = true) {S : List D} (hS : S.length < 60) (w y : Option D) : Sat (bodyP (Rd (some (lsD ls)) w (some (.tup (xs.map .str))) (some (.lst S)) (some (.int (i : Nat))) y)) fun f ρ => f = .nx ∧ ∃ w y, ρ = Rd (some (lsD ls)) w (some (.tup (xs.map .str))) (some (.lst (S ++ [fR x]))) (some (.int (i : Nat))) y := by
  obtain ⟨b, c, es, mb, mc⟩ := rok_spec ok
  have ef : fR x = .tup ([b, c].map .str) := by unfold fR; rw [es]; rfl
  have hr : ∀ z ∈ [b, c], asc z = true := fun z m => split_asc ha (by rw [es]; exact List.mem_cons_of_mem _ m)
  have t := prow_test hn hr (a := "ahead") (lsD ls) S (some (.int (i : Nat)))
  rw [← es, ok, Bool.not_true, Bool.false_or, decide_eq_false (by omega)] at t
  unfold bodyP
  rw [row_pre hx ha hl es, ← es]
  rw [ef]
  have ea : appendD S [D.tup ([b, c].map .str)] = some (.non, S ++ [D.tup ([b, c].map .str)]) := if_pos (by omega)
  exact sat_seq (sat_of (if_nx t) ⟨rfl, sat_drop (sat_mtL (i := 3) rfl (sat_cons (sat_of (a := .tup ([b, c].map .str)) rfl (sat_nil ⟨S, .non, S ++ [D.tup ([b, c].map .str)], rfl, ea, rfl, _, _, rfl⟩))))⟩)
end
noncomputable abbrev headP : MT := mOr (mTest (mOp2 neD (mV (mOp2 ixD (mV (mVar 1)) (mV (mC (.int 0))))) (mV (mC (.str "names"))))) (mNot (mTest (mCall0 1 g_are_names (mCons (mVar 2) mNil))))
noncomputable abbrev tailP : MS := mSeq (mIfS headP (mRaise "NoText" ["row"] (mCons (mC (.int 0)) mNil)) mNx)
  (mSeq (mSet 3 (mLst mNil)) (mSeq (mLoop (kName 4) bodyP rngL) (mRet (mTup (mCons (mVar 2) (mCons (mOp1 tupleD (mS 3)) mNil))))))
section
variable {l0 : Str} {rs : List Str} {a : Str} {r : List Str}
theorem lenL (ls : List Str) : lenD (lsD ls) = some (.int (ls.length : Nat)) := by
  show some (D.int ((ls.map D.str).length : Nat)) = _
  rw [List.length_map]
theorem prog_start (ha : asc l0 = true) (hl : l0.length ≤ 1000000) (es : Txt.split l0 BL = a :: r) : m_read_tale (Rd (some (lsD (l0 :: rs))) none none none none none) = tailP (Rd (some (lsD (l0 :: rs))) (some (.lst ((a :: r).map .str))) (some (.tup (r.map .str))) none none none) := by
  have t0 := test_val (op2_val (f := eqD) (mb := mC (.int 0)) (len_opS (m := mVar 0) (ρ := Rd (some (lsD (l0 :: rs))) none none none none none) rfl (lenL (l0 :: rs))) rfl (d_eqI _ _))
  rw [decide_eq_false (by rw [List.length_cons]; omega)] at t0
  have e1 := split_val (m := mOp2 ixD (mV (mVar 0)) (mV (mC (.int 0)))) (ρ := Rd (some (lsD (l0 :: rs))) none none none none none) (op2_val rfl rfl (ixS0 (l := l0 :: rs) (i := 0) rfl)) ha hl
  rw [es] at e1
  have e2 := rest_val (m := mVar 1) (ρ := Rd (some (lsD (l0 :: rs))) (some (.lst ((a :: r).map .str))) none none none none) (a := a) (r := r) rfl
  unfold m_read_tale
  rw [e_seq, if_nx t0, R.bind_ok]
  show mSeq _ _ (Rd (some (lsD (l0 :: rs))) none none none none none) = _
  rw [e_seq, set_val e1, R.bind_ok]
  show mSeq _ _ (Rd (some (lsD (l0 :: rs))) (some (.lst ((a :: r).map .str))) none none none none) = _
  rw [e_seq, set_val e2, R.bind_ok]
  rfl
theorem headP_val {b : Bool} (e1 : g_are_names [.tup (r.map .str)] = .ok (.bl b) []) (l s k y : Option D) : headP (Rd l (some (.lst ((a :: r).map .str))) (some (.tup (r.map .str))) s k y) = .ok (!decide (a = "names") || !b) (Rd l (some (.lst ((a :: r).map .str))) (some (.tup (r.map .str))) s k y) :=
  or_b (test_val (op2_val (f := neD) (mb := mC (.str "names")) (op2_val (ma := mVar 1) (mb := mC (.int 0)) rfl rfl (ixS0 (l := a :: r) (i := 0) rfl)) rfl (ne_strV a "names"))) fun _ => not_b (test_val (call0_1 (m := mVar 2) rfl e1))
theorem rng_len (ls : List Str) {k : Nat} (hk : ls.length = k + 1) (h : k + 1 ≤ 1000000) {ρ : DEnv} (h0 : ρ[0]? = some (some (lsD ls))) : rngL ρ = .ok (rangeD 1 k) ρ := by
  have e : mVar 0 ρ = .ok (lsD ls) ρ := by rw [e_var, h0]; rfl
  have := lenL ls
  rw [hk] at this
  exact rng2_ok (len_opS e this) h
end
theorem asc_app {x y : Str} (hx : asc x = true) (hy : asc y = true) (l : x.length + y.length ≤ 16777216) : asc (x ++ y) = true ∧ (x ++ y).length = x.length + y.length := by
  have e : (x ++ y).cps.toList = x.cps.toList ++ y.cps.toList := by
    show (x.cps ++ y.cps).toList = _
    rw [Array.toList_append]
  have el : (x ++ y).length = x.length + y.length := by
    show (x ++ y).cps.size = x.cps.size + y.cps.size
    rw [← Array.length_toList, e, List.length_append, Array.length_toList, Array.length_toList]
  refine ⟨asc_mk (fun c hc => ?_) (by rw [el]; exact l), el⟩
  rw [e] at hc
  rcases List.mem_append.mp hc with hc | hc
  · exact (ascE hx).1 c hc
  · exact (ascE hy).1 c hc
theorem add_str {x y : Str} (l : x.length + y.length ≤ 16777216) : addD (.str x) (.str y) = some (.str (x ++ y)) := if_pos l
theorem add_lsD {a b : List Str} (l : a.length + b.length ≤ 16777216) : addD (lsD a) (lsD b) = some (lsD (a ++ b)) := by
  unfold lsD
  rw [List.map_append]
  exact add_Ls (by rw [List.length_map, List.length_map]; exact l)
abbrev AH : Str := "ahead "
theorem nm_good {x : Str} (h : goodB x = true) : asc x = true ∧ x.length ≤ 8 := ⟨asc_good h, (goodE h).2.1⟩
theorem tw_names : ∀ {xs : List Str}, (∀ x ∈ xs, x.length ≤ 8) → TW xs ≤ 9 * xs.length
  | [], _ => Nat.le_refl _
  | x :: xs, h => by
    have e : TW (x :: xs) = TW [x] + TW xs := TW_app [x] xs
    have h1 := h x List.mem_cons_self
    have h2 := tw_names fun y m => h y (List.mem_cons_of_mem _ m)
    rw [e, TW_one, List.length_cons, Nat.mul_succ]; omega
def rowS (s : Str × Str) : Str := AH ++ s.1 ++ BL ++ s.2
theorem ix0 (a b : D) : ixD (.tup [a, b]) (.int 0) = some a := rfl
theorem ix1 (a b : D) : ixD (.tup [a, b]) (.int 1) = some b := rfl
/-! ### k05 -/
theorem has_low {c : Nat} (h1 : 97 ≤ c) (h2 : c ≤ 122) : hasL c = true := by
  have all : ∀ k : Fin 26, hasL (97 + k.val) = true := by decide +kernel
  have := all ⟨c - 97, by omega⟩
  rw [show 97 + (⟨c - 97, by omega⟩ : Fin 26).val = c by show 97 + (c - 97) = c; omega] at this
  exact this
theorem good_isN {x : Str} (h : goodB x = true) : isN x = true := by
  obtain ⟨h1, h2, h3⟩ := goodE h
  unfold isN
  rw [decide_eq_true h1, decide_eq_true h2, Bool.true_and, Bool.true_and, List.all_eq_true]
  exact fun c m => has_low (h3 c m).1 (h3 c m).2
theorem good_free {x : Str} (h : goodB x = true) : 32 ∉ x.cps.toList := fun m => by
  have := ((goodE h).2.2 32 m).1
  omega
theorem join_valT {m : ME} {ρ : DEnv} {ws : List Str} (h : m ρ = .ok (.tup (ws.map .str)) ρ) (l : TW ws ≤ 1000000) : mM1 joinD (mC (.str BL)) (mV m) ρ = .ok (.str (Str.join BL ws)) ρ := by
  have q : joinD (.str BL) (.tup (ws.map .str)) = some (.str (Str.join BL ws)) := by
    show (asStrs (ws.map .str)).bind _ = _
    rw [asStrs_map, Option.bind_some, if_pos (by unfold sj; rw [bl1]; unfold TW at l; omega)]
    rw [TL.join_eq]
  unfold mM1
  rw [e_C, R.bind_ok]
  show ((mV m) ρ).bind _ = _
  rw [e_V, h]
  show R.of (joinD (.str BL) (.tup (ws.map .str))) ρ = _
  rw [q]; rfl
theorem two_opM {i : Nat} {f : D → D → Option D} {n : ME} {ρ : DEnv} {d e v : D} (h : ρ[i]? = some (some d)) (h2 : n ρ = .ok e ρ) (q : f d e = some v) : mOpN (two f) (mOCons (mS i) (mOCons (mV n) mONil)) ρ = .ok v ρ := by
  simp [h, h2, q, two]
structure Tl (xs : List Str) (ss : SS) : Prop where
  lx : xs.length ≤ 10
  gx : GoodNs xs
  ls : ss.length ≤ 60
  hm : ∀ s ∈ ss, s.1 ∈ xs ∧ s.2 ∈ xs
abbrev NMS : Str := "names"
abbrev AHD : Str := "ahead"
def rowJ (s : Str × Str) : Str := Str.join BL [AHD, s.1, s.2]
def allL (xs : List Str) (ss : SS) : List Str := Str.join BL (NMS :: xs) :: ss.map rowJ
section
variable {xs : List Str} {ss : SS} (h : Tl xs ss)
include h
theorem Tl.g8 : ∀ x ∈ xs, asc x = true ∧ x.length ≤ 8 := fun x m => nm_good (h.gx.all x m)
theorem Tl.tw : TW (NMS :: xs) ≤ 96 := by
  have n5 : NMS.length = 5 := by decide +kernel
  have e : TW (NMS :: xs) = TW [NMS] + TW xs := TW_app [NMS] xs
  have := tw_names fun x m => (h.g8 x m).2
  have := h.lx
  rw [e, TW_one, n5]; omega
theorem Tl.row {s : Str × Str} (ms : s ∈ ss) : TW [AHD, s.1, s.2] ≤ 24 ∧ Txt.split (rowJ s) BL = [AHD, s.1, s.2] ∧ asc (rowJ s) = true ∧ (rowJ s).length ≤ 100 := by
  obtain ⟨m1, m2⟩ := h.hm s ms
  obtain ⟨a1, l1⟩ := h.g8 _ m1
  obtain ⟨a2, l2⟩ := h.g8 _ m2
  have a5 : AHD.length = 5 := by decide +kernel
  have tz : TW [AHD, s.1, s.2] ≤ 24 := by
    have e : TW [AHD, s.1, s.2] = TW [AHD] + (TW [s.1] + TW [s.2]) := by
      rw [← TW_app, ← TW_app]; rfl
    rw [e, TW_one, TW_one, TW_one, a5]; omega
  refine ⟨tz, split_join (by simp) fun w m => ?_, join_ascB (fun w m => ?_) (by omega), ?_⟩
  · simp only [List.mem_cons, List.not_mem_nil, or_false] at m
    rcases m with rfl | rfl | rfl
    · decide +kernel
    · exact good_free (h.gx.all _ m1)
    · exact good_free (h.gx.all _ m2)
  · simp only [List.mem_cons, List.not_mem_nil, or_false] at m
    rcases m with rfl | rfl | rfl
    · decide +kernel
    · exact a1
    · exact a2
  · have := joinB_len [AHD, s.1, s.2]
    unfold rowJ
    omega
theorem Tl.head : Txt.split (Str.join BL (NMS :: xs)) BL = NMS :: xs ∧ asc (Str.join BL (NMS :: xs)) = true ∧ (Str.join BL (NMS :: xs)).length ≤ 100 := by
  have tw := h.tw
  refine ⟨split_join (by simp) fun w m => ?_, join_ascB (fun w m => ?_) (by omega), ?_⟩
  · rcases List.mem_cons.mp m with rfl | m
    · decide +kernel
    · exact good_free (h.gx.all w m)
  · rcases List.mem_cons.mp m with rfl | m
    · decide +kernel
    · exact (h.g8 w m).1
  · have := joinB_len (NMS :: xs)
    omega
theorem Tl.lines : g_tale_lines [hfD xs ss] = .ok (lsD (allL xs ss)) [] := by
  have tw := h.tw
  have lx := h.lx
  refine run0 (m := m_tale_lines) (N := 6) ?_
  unfold m_tale_lines
  refine sat_seq (sat_of (a := .nx) (ρ := [some (hfD xs ss), some (.tup (xs.map .str)), some (ssD ss), none, none, none]) rfl ⟨rfl, ?_⟩)
  have ev : mOp2 addD (mV (mTup (mCons (mC (.str "names")) mNil))) (mV (mVar 1)) [some (hfD xs ss), some (.tup (xs.map .str)), some (ssD ss), none, none, none] = .ok (.tup ((NMS :: xs).map .str)) [some (hfD xs ss), some (.tup (xs.map .str)), some (ssD ss), none, none, none] :=
    op2_val (d := .tup [.str NMS]) rfl rfl (add_Ts (by rw [List.length_singleton, List.length_map]; omega))
  have ej := join_valT ev (by omega)
  have el : mLst (mCons (mM1 joinD (mC (.str BL)) (mV (mOp2 addD (mV (mTup (mCons (mC (.str "names")) mNil))) (mV (mVar 1))))) mNil) [some (hfD xs ss), some (.tup (xs.map .str)), some (ssD ss), none, none, none] = .ok (lsD [Str.join BL (NMS :: xs)]) [some (hfD xs ss), some (.tup (xs.map .str)), some (ssD ss), none, none, none] := by
    rw [e_lst, e_cons, ej, R.bind_ok, e_nil, R.bind_ok, R.bind_ok]; rfl
  refine sat_seq (sat_set (sat_of el ⟨rfl, ?_⟩))
  change Sat (mSeq _ _ [some (hfD xs ss), some (.tup (xs.map .str)), some (ssD ss), some (lsD [Str.join BL (NMS :: xs)]), none, none]) _
  refine sat_seq (sat_loop (ds := ss.map prD) (ts_val rfl) (sat_for _ (I := fun i ρ => ∃ a b : Option D, ρ = [some (hfD xs ss), some (.tup (xs.map .str)), some (ssD ss), some (lsD (Str.join BL (NMS :: xs) :: (ss.take i).map rowJ)), a, b]) ?_ _ ⟨none, none, rfl⟩ ?_))
  · rintro i d ρ hd ⟨a, b, rfl⟩
    rw [List.getElem?_map] at hd
    obtain ⟨s, hs, rfl⟩ := Option.map_eq_some_iff.mp hd
    obtain ⟨r1, r2, r3, r4⟩ := h.row (List.mem_of_getElem? hs)
    refine ⟨[some (hfD xs ss), some (.tup (xs.map .str)), some (ssD ss), some (lsD (Str.join BL (NMS :: xs) :: (ss.take i).map rowJ)), some (.str s.1), some (.str s.2)], rfl, ?_⟩
    have ev := join_val (m := mLst (mCons (mC (.str "ahead")) (mCons (mVar 4) (mCons (mVar 5) mNil)))) (ws := [AHD, s.1, s.2]) (ρ := [some (hfD xs ss), some (.tup (xs.map .str)), some (ssD ss), some (lsD (Str.join BL (NMS :: xs) :: (ss.take i).map rowJ)), some (.str s.1), some (.str s.2)]) rfl (by omega)
    have ll : ((Str.join BL (NMS :: xs) :: (ss.take i).map rowJ).map D.str).length ≤ 61 := by
      have := h.ls
      rw [List.length_map, List.length_cons, List.length_map, List.length_take]; omega
    have ea : appendD ((Str.join BL (NMS :: xs) :: (ss.take i).map rowJ).map D.str) [D.str (Str.join BL [AHD, s.1, s.2])] = some (.non, (Str.join BL (NMS :: xs) :: (ss.take i).map rowJ).map D.str ++ [D.str (Str.join BL [AHD, s.1, s.2])]) := if_pos (by omega)
    have eq : (Str.join BL (NMS :: xs) :: (ss.take i).map rowJ).map D.str ++ [D.str (Str.join BL [AHD, s.1, s.2])] = (Str.join BL (NMS :: xs) :: (ss.take (i + 1)).map rowJ).map D.str := by
      rw [List.take_succ, hs, List.map_append, List.map_cons, List.map_cons, List.map_append]; rfl
    rw [eq] at ea
    exact sat_drop (sat_mtL (i := 3) rfl (sat_cons (sat_of ev (sat_nil ⟨(Str.join BL (NMS :: xs) :: (ss.take i).map rowJ).map D.str, .non, (Str.join BL (NMS :: xs) :: (ss.take (i + 1)).map rowJ).map D.str, rfl, ea, .inl ⟨rfl, _, _, rfl⟩⟩))))
  · rintro ρ ⟨a, b, rfl⟩
    rw [List.length_map, List.take_length]
    exact ⟨rfl, sat_ret (sat_of (a := lsD (allL xs ss)) rfl rfl)⟩
theorem Tl.read : g_read_tale [lsD (allL xs ss)] = .ok (hfD xs ss) [] := by
  obtain ⟨es, a0, b0⟩ := h.head
  have hx : ∀ x ∈ xs, isN x = true := fun x m => good_isN (h.gx.all x m)
  have ls := h.ls
  have e1 := names_true (fun x m => (h.g8 x m).1) hx h.gx.nd h.lx
  have tP := headP_val (a := NMS) e1 (some (lsD (allL xs ss))) none none none
  rw [decide_eq_true rfl, Bool.not_true, Bool.or_false] at tP
  have l2 : (ss.map rowJ).length = ss.length := List.length_map _
  have rl := fun {ρ : DEnv} (h0 : ρ[0]? = some (some (lsD (allL xs ss)))) => rng_len (allL xs ss) (k := ss.length) (by unfold allL; rw [List.length_cons, l2]) (by omega) h0
  have eR : (ss.map rowJ).map fR = ss.map prD := by
    rw [List.map_map]
    refine List.map_congr_left fun s ms => ?_
    show fR (rowJ s) = prD s
    unfold fR
    rw [(h.row ms).2.1]; rfl
  refine run0 (m := m_read_tale) (N := 6) ?_
  change Sat (m_read_tale (Rd (some (lsD (Str.join BL (NMS :: xs) :: ss.map rowJ))) none none none none none)) _
  rw [prog_start a0 (by omega) es]
  refine sat_skip tP (sat_seq (sat_set (sat_of (a := .lst []) (ρ := Rd (some (lsD (allL xs ss))) (some (.lst ((NMS :: xs).map .str))) (some (.tup (xs.map .str))) none none none) rfl ⟨rfl, ?_⟩)))
  change Sat (mSeq _ _ (Rd (some (lsD (allL xs ss))) (some (.lst ((NMS :: xs).map .str))) (some (.tup (xs.map .str))) (some (.lst [])) none none)) _
  refine sat_seq (sat_loop (ds := rangeD 1 ss.length) (rl rfl) (sat_for _ (I := fun i ρ => ∃ w k y, ρ = Rd (some (lsD (allL xs ss))) w (some (.tup (xs.map .str))) (some (.lst (((ss.map rowJ).take i).map fR))) k y) ?_ _ ⟨_, _, _, rfl⟩ ?_))
  · rintro i z ρ hz ⟨w, k, y, rfl⟩
    obtain ⟨hi, rfl⟩ := rng1_at hz
    have hs := List.getElem?_eq_getElem hi
    obtain ⟨r1, r2, r3, r4⟩ := h.row (List.getElem_mem hi)
    have hd : (ss.map rowJ)[i]? = some (rowJ ss[i]) := by rw [List.getElem?_map, hs]; rfl
    have hd2 : (allL xs ss)[i + 1]? = some (rowJ ss[i]) := by unfold allL; rw [List.getElem?_cons_succ]; exact hd
    have ok : rokB xs (Txt.split (rowJ ss[i]) BL) = true := by
      rw [r2]
      obtain ⟨m1, m2⟩ := h.hm _ (List.getElem_mem hi)
      show (decide (AHD = "ahead") && (decide (ss[i].1 ∈ xs) && decide (ss[i].2 ∈ xs))) = true
      rw [decide_eq_true m1, decide_eq_true m2, decide_eq_true rfl]; rfl
    refine ⟨Rd (some (lsD (allL xs ss))) w (some (.tup (xs.map .str))) (some (.lst (((ss.map rowJ).take i).map fR))) (some (.int ((i + 1 : Nat) : Int))) y, rfl, ?_⟩
    refine sat_mono (rowP_good hx hd2 r3 (by omega) ok (by rw [List.length_map, List.length_take]; omega) w y) ?_
    rintro f ρ ⟨rfl, w, y, rfl⟩
    exact .inl ⟨rfl, w, _, y, by rw [take_row hd]⟩
  · rintro ρ ⟨w, k, y, rfl⟩
    rw [len_range, ← l2, List.take_length, eR]
    exact ⟨rfl, sat_ret (sat_of (tup2_val (m := mVar 2) rfl (op1_S (i := 3) (d := .lst (ss.map prD)) rfl rfl)) rfl)⟩
theorem Tl.law : g__law_lines [hfD xs ss] = .ok (lsD (allL xs ss)) [] := by
  have ah : AH.length = 6 := by decide +kernel
  have aa : asc AH = true := by decide +kernel
  have ab : asc BL = true := by decide +kernel
  have b1 := bl1
  have tw := h.tw
  have lx := h.lx
  have ls := h.ls
  have row : ∀ s ∈ ss, addD (.str AH) (.str s.1) = some (.str (AH ++ s.1)) ∧ addD (.str (AH ++ s.1)) (.str BL) = some (.str (AH ++ s.1 ++ BL)) ∧ addD (.str (AH ++ s.1 ++ BL)) (.str s.2) = some (.str (rowS s)) := fun s ms => by
    obtain ⟨m1, m2⟩ := h.hm s ms
    obtain ⟨a1, l1⟩ := h.g8 _ m1
    obtain ⟨a2, l2⟩ := h.g8 _ m2
    obtain ⟨p1, q1⟩ := asc_app aa a1 (by omega)
    obtain ⟨p2, q2⟩ := asc_app p1 ab (by omega)
    exact ⟨add_str (by omega), add_str (by omega), add_str (by omega)⟩
  have rj : ∀ s, rowS s = rowJ s := fun s => by
    have ej : rowJ s = AHD ++ BL ++ (s.1 ++ BL ++ s.2) := rfl
    have ea : AH = AHD ++ BL := by decide +kernel
    unfold rowS
    rw [ej, ea]
    simp only [Str.append_assoc]
  refine run0 (m := m__law_lines) (N := 4) ?_
  unfold m__law_lines
  have ev : mOp2 addD (mV (mLst (mCons (mC (.str "names")) mNil))) (mV (mOpN (one listD) (mOCons (mV (mOp2 ixD (mV (mVar 0)) (mV (mC (.int 0))))) mONil))) [some (hfD xs ss), none, none, none] = .ok (lsD (NMS :: xs)) [some (hfD xs ss), none, none, none] :=
    op2_val (d := lsD [NMS]) rfl (len_opS (v := lsD xs) (op2_val (ma := mVar 0) (mb := mC (.int 0)) rfl rfl (ix0 _ _)) rfl) (add_lsD (by rw [List.length_singleton]; omega))
  have ej := join_val ev (by omega)
  have el : mLst (mCons (mM1 joinD (mC (.str BL)) (mV (mOp2 addD (mV (mLst (mCons (mC (.str "names")) mNil))) (mV (mOpN (one listD) (mOCons (mV (mOp2 ixD (mV (mVar 0)) (mV (mC (.int 0))))) mONil)))))) mNil) [some (hfD xs ss), none, none, none] = .ok (lsD [Str.join BL (NMS :: xs)]) [some (hfD xs ss), none, none, none] := by
    rw [e_lst, e_cons, ej, R.bind_ok, e_nil, R.bind_ok, R.bind_ok]; rfl
  refine sat_seq (sat_set (sat_of el ⟨rfl, ?_⟩))
  change Sat (mRet _ [some (hfD xs ss), some (lsD [Str.join BL (NMS :: xs)]), none, none]) _
  have lc := lc_prs (R := ss) (ma := mTs (mOp2 ixD (mV (mVar 0)) (mV (mC (.int 1))))) (elt := mOp2 addD (mV (mOp2 addD (mV (mOp2 addD (mV (mC (.str "ahead "))) (mV (mVar 2)))) (mV (mC (.str " "))))) (mV (mVar 3))) (i := 2) (j := 3) (ρ := [some (hfD xs ss), some (lsD [Str.join BL (NMS :: xs)]), none, none]) (fun s => .str (rowS s)) (ts_val (op2_val rfl rfl (ix1 _ _))) (by omega) (by omega) (by simp) (by simp) fun s ms => op2_val (op2_val (op2_val rfl rfl (row s ms).1) rfl (row s ms).2.1) rfl (row s ms).2.2
  have er : (ss.map fun s => D.str (rowS s)) = (ss.map rowJ).map .str := by rw [List.map_map]; exact List.map_congr_left fun s _ => by rw [rj]; rfl
  rw [er] at lc
  exact sat_ret (sat_of (op2_val (ma := mVar 1) rfl lc (add_lsD (a := [Str.join BL (NMS :: xs)]) (by rw [List.length_singleton, List.length_map]; omega))) rfl)
end
abbrev Lw (sc d k ts tn t kp du fo ha : Option D) : DEnv := [sc, d, k, ts, tn, t, kp, du, fo, ha]
theorem law_holds (ms : List Int) (hl : ms.length ≤ 63) : ∃ ρ, g_law [.scr ms] = .ok (.bl true) ρ := by
  obtain ⟨d0, ρ0, e0, fd0⟩ := feed_ok ms hl
  refine law_of (m := m_law) (N := 10) ?_
  unfold m_law
  refine sat_seq (sat_set (sat_of (a := d0) (ρ := Lw (some (.scr ms)) none none none none none none none none none) (by simp [e0]) ⟨rfl, ?_⟩))
  change Sat (mSeq _ _ (Lw (some (.scr ms)) (some d0) none none none none none none none none)) _
  refine sat_seq (sat_loop (ds := rangeD 0 4) rfl (sat_for (rangeD 0 4) (I := fun _ ρ => ∃ d k ts tn t kp du fo ha, Feed d ∧ ρ = Lw (some (.scr ms)) (some d) k ts tn t kp du fo ha) ?_ _ ⟨d0, _, _, _, _, _, _, _, _, fd0, rfl⟩ ?_))
  · rintro i x ρ hx ⟨d, k, ts, tn, t, kp, du, fo, ha, fd, rfl⟩
    refine ⟨Lw (some (.scr ms)) (some d) (some x) ts tn t kp du fo ha, rfl, ?_⟩
    refine sat_seq (sat_set (sat_lstO ?_))
    refine sat_cons ?_
    refine sat_fs (n := 1) (d0 := d) rfl ?_
    refine sat_cons (sat_of rfl ?_)
    refine sat_nil ⟨rfl, d, _, rfl, fd, tale_ok (m := 10) (by decide) (by decide), fun v d1 hv fd1 => ?_⟩
    obtain ⟨x1, s1, hv⟩ := hv
    obtain ⟨rfl, lx, gx, ls, hm⟩ := hv
    have T1 : Tl x1 s1 := ⟨lx, gx, ls, hm⟩
    refine sat_cons ?_
    refine sat_fs (n := 1) (d0 := d1) rfl ?_
    refine sat_cons (sat_of rfl ?_)
    refine sat_nil ⟨rfl, d1, _, rfl, fd1, tale_ok (m := 10) (by decide) (by decide), fun v d2 hv fd2 => ?_⟩
    obtain ⟨x2, s2, hv⟩ := hv
    obtain ⟨rfl, lx, gx, ls, hm⟩ := hv
    have T2 : Tl x2 s2 := ⟨lx, gx, ls, hm⟩
    refine sat_nil ⟨by simp, rfl, ?_⟩
    change Sat (mLoop _ _ _ (Lw (some (.scr ms)) (some d2) (some x) (some (.lst [hfD x1 s1, hfD x2 s2])) tn t kp du fo ha)) _
    refine sat_loop (ds := rangeD 0 4) rfl (sat_for (rangeD 0 4) (I := fun _ ρ => ∃ tn t kp du fo ha, ρ = Lw (some (.scr ms)) (some d2) (some x) (some (.lst [hfD x1 s1, hfD x2 s2])) tn t kp du fo ha) ?_ _ ⟨_, _, _, _, _, _, rfl⟩ ?_)
    · rintro i' y ρ hy ⟨tn, t, kp, du, fo, ha, rfl⟩
      obtain ⟨q, hq, rfl⟩ := mem_range (List.mem_of_getElem? hy)
      obtain ⟨xs, ss, T, hix⟩ : ∃ xs ss, Tl xs ss ∧ ixD (.lst [hfD x1 s1, hfD x2 s2]) (.int ((0 + (q : Int)) % 2)) = some (hfD xs ss) := by
        rw [Int.zero_add]
        have : (q : Int) % 2 = 0 ∨ (q : Int) % 2 = 1 := by omega
        rcases this with z | z
        · rw [z]; exact ⟨x1, s1, T1, rfl⟩
        · rw [z]; exact ⟨x2, s2, T2, rfl⟩
      have er := half_repr (xs := xs) (ss := ss) (by have := T.lx; omega) T.gx.all (by have := T.ls; omega) T.hm
      obtain ⟨rp, hrp⟩ : ∃ rp, reprD (hfD xs ss) = some (.rp rp) := ⟨_, er⟩
      obtain ⟨us, hus⟩ : ∃ us, us = allL xs ss := ⟨_, rfl⟩
      have eL := T.law
      have eP := T.lines
      have eR := T.read
      have lu : us.length ≤ 61 := by rw [hus]; unfold allL; rw [List.length_cons, List.length_map]; have := T.ls; omega
      rw [← hus] at eL eP eR
      refine ⟨Lw (some (.scr ms)) (some d2) (some x) (some (.lst [hfD x1 s1, hfD x2 s2])) (some (.int (0 + (q : Int)))) t kp du fo ha, rfl, ?_⟩
      refine sat_seq (sat_set (sat_of (a := hfD xs ss) (ρ := Lw (some (.scr ms)) (some d2) (some x) (some (.lst [hfD x1 s1, hfD x2 s2])) (some (.int (0 + (q : Int)))) t kp du fo ha) (op2_val (ma := mVar 3) rfl (op2_val (ma := mVar 4) (mb := mC (.int 2)) rfl rfl rfl) hix) ⟨rfl, ?_⟩))
      change Sat (mSeq _ _ (Lw (some (.scr ms)) (some d2) (some x) (some (.lst [hfD x1 s1, hfD x2 s2])) (some (.int (0 + (q : Int)))) (some (hfD xs ss)) kp du fo ha)) _
      refine sat_seq (sat_set (sat_of (a := .rp rp) (ρ := Lw (some (.scr ms)) (some d2) (some x) (some (.lst [hfD x1 s1, hfD x2 s2])) (some (.int (0 + (q : Int)))) (some (hfD xs ss)) kp du fo ha) (len_opS rfl hrp) ⟨rfl, ?_⟩))
      change Sat (mSeq _ _ (Lw (some (.scr ms)) (some d2) (some x) (some (.lst [hfD x1 s1, hfD x2 s2])) (some (.int (0 + (q : Int)))) (some (hfD xs ss)) (some (.rp rp)) du fo ha)) _
      refine sat_seq (sat_set (sat_of (a := lsD us) (ρ := Lw (some (.scr ms)) (some d2) (some x) (some (.lst [hfD x1 s1, hfD x2 s2])) (some (.int (0 + (q : Int)))) (some (hfD xs ss)) (some (.rp rp)) du fo ha) (call0_1 rfl eL) ⟨rfl, ?_⟩))
      change Sat (mSeq _ _ (Lw (some (.scr ms)) (some d2) (some x) (some (.lst [hfD x1 s1, hfD x2 s2])) (some (.int (0 + (q : Int)))) (some (hfD xs ss)) (some (.rp rp)) (some (lsD us)) fo ha)) _
      refine sat_seq (sat_set (sat_of (a := lsD us) (ρ := Lw (some (.scr ms)) (some d2) (some x) (some (.lst [hfD x1 s1, hfD x2 s2])) (some (.int (0 + (q : Int)))) (some (hfD xs ss)) (some (.rp rp)) (some (lsD us)) fo ha) (call0_1 rfl eP) ⟨rfl, ?_⟩))
      change Sat (mSeq _ _ (Lw (some (.scr ms)) (some d2) (some x) (some (.lst [hfD x1 s1, hfD x2 s2])) (some (.int (0 + (q : Int)))) (some (hfD xs ss)) (some (.rp rp)) (some (lsD us)) (some (lsD us)) ha)) _
      have nu : neD (lsD us) (lsD us) = some (.bl false) := by
        have := ne_strsL us us
        rw [decide_eq_true rfl] at this
        exact this
      have w1 := test_val (two_opM (i := 8) (f := isiD) (n := mC (.ty "list")) (ρ := Lw (some (.scr ms)) (some d2) (some x) (some (.lst [hfD x1 s1, hfD x2 s2])) (some (.int (0 + (q : Int)))) (some (hfD xs ss)) (some (.rp rp)) (some (lsD us)) (some (lsD us)) ha) rfl rfl (isi_of (d := lsD us) (c := "list") (b := true) rfl (by decide +kernel)))
      have w2 := test_val (op2_sv (i := 8) (f := neD) (m := mVar 7) (ρ := Lw (some (.scr ms)) (some d2) (some x) (some (.lst [hfD x1 s1, hfD x2 s2])) (some (.int (0 + (q : Int)))) (some (hfD xs ss)) (some (.rp rp)) (some (lsD us)) (some (lsD us)) ha) rfl rfl nu)
      have w3 := test_val (op2_val (f := neD) (mb := mVar 6) (len_opS (m := mVar 5) (ρ := Lw (some (.scr ms)) (some d2) (some x) (some (.lst [hfD x1 s1, hfD x2 s2])) (some (.int (0 + (q : Int)))) (some (hfD xs ss)) (some (.rp rp)) (some (lsD us)) (some (lsD us)) ha) rfl hrp) rfl (ne_rp rp))
      refine sat_skip (or_ff (not_t w1) (or_ff w2 w3)) ?_
      have ea : appendD (us.map D.str) [D.str AHD] = some (.non, us.map D.str ++ [D.str AHD]) := if_pos (by rw [List.length_map]; omega)
      refine sat_seq (sat_drop (sat_mtL (i := 8) rfl (sat_cons (sat_of (a := .str AHD) rfl (sat_nil ⟨us.map D.str, .non, us.map D.str ++ [D.str AHD], rfl, ea, rfl, ?_⟩)))))
      change Sat (mSeq _ _ (Lw (some (.scr ms)) (some d2) (some x) (some (.lst [hfD x1 s1, hfD x2 s2])) (some (.int (0 + (q : Int)))) (some (hfD xs ss)) (some (.rp rp)) (some (lsD us)) (some (.lst (us.map D.str ++ [D.str AHD]))) ha)) _
      refine sat_seq (sat_set (sat_of (a := lsD us) (ρ := Lw (some (.scr ms)) (some d2) (some x) (some (.lst [hfD x1 s1, hfD x2 s2])) (some (.int (0 + (q : Int)))) (some (hfD xs ss)) (some (.rp rp)) (some (lsD us)) (some (.lst (us.map D.str ++ [D.str AHD]))) ha) (len_opS rfl rfl) ⟨rfl, ?_⟩))
      change Sat (mIfS _ _ _ (Lw (some (.scr ms)) (some d2) (some x) (some (.lst [hfD x1 s1, hfD x2 s2])) (some (.int (0 + (q : Int)))) (some (hfD xs ss)) (some (.rp rp)) (some (lsD us)) (some (.lst (us.map D.str ++ [D.str AHD]))) (some (lsD us)))) _
      have w4 := test_val (op2_val (f := neD) (mb := mVar 6) (len_opS (call0_1 (m := mVar 9) (ρ := Lw (some (.scr ms)) (some d2) (some x) (some (.lst [hfD x1 s1, hfD x2 s2])) (some (.int (0 + (q : Int)))) (some (hfD xs ss)) (some (.rp rp)) (some (lsD us)) (some (.lst (us.map D.str ++ [D.str AHD]))) (some (lsD us))) rfl eR) hrp) rfl (ne_rp rp))
      have w5 := test_val (op2_val (f := neD) (ma := mVar 9) (mb := mVar 7) (ρ := Lw (some (.scr ms)) (some d2) (some x) (some (.lst [hfD x1 s1, hfD x2 s2])) (some (.int (0 + (q : Int)))) (some (hfD xs ss)) (some (.rp rp)) (some (lsD us)) (some (.lst (us.map D.str ++ [D.str AHD]))) (some (lsD us))) rfl rfl nu)
      exact sat_ifF (or_ff w4 w5) (sat_of rfl (.inl ⟨rfl, _, _, _, _, _, _, rfl⟩))
    · rintro ρ ⟨tn, t, kp, du, fo, ha, rfl⟩
      exact .inl ⟨rfl, d2, _, _, _, _, _, _, _, _, fd2, rfl⟩
  · rintro ρ ⟨d, k, ts, tn, t, kp, du, fo, ha, fd, rfl⟩
    refine ⟨rfl, ?_⟩
    have T0 : Tl [] [] := ⟨by simp, ⟨List.nodup_nil, by simp⟩, by simp, by simp⟩
    have eP := T0.lines
    have eR := T0.read
    have ea : allL [] [] = [NMS] := rfl
    rw [ea] at eP eR
    have hrp : reprD (hfD [] []) = some (.rp (hfD [] []).toPy) := half_repr (xs := []) (ss := []) (by simp) (by simp) (by simp) (by simp)
    have er : eqD (.rp (hfD [] []).toPy) (.str "((), ())") = some (.bl true) := by
      have : eqB (.rp (hfD [] []).toPy) (.str "((), ())") = some (decide ((hfD [] []).toPy.shown = "((), ())")) := rfl
      unfold eqD
      rw [this, decide_eq_true (by decide +kernel)]; rfl
    have p1 := op2_val (f := eqD) (mb := mLst (mCons (mC (.str "names")) mNil)) (call0_1 (g := g_tale_lines) (m := mTup (mCons (mTup mNil) (mCons (mTup mNil) mNil))) (ρ := Lw (some (.scr ms)) (some d) k ts tn t kp du fo ha) rfl eP) rfl (eq_strL [NMS])
    have p2 := op2_val (f := eqD) (mb := mC (.str "((), ())")) (len_opS (f := reprD) (call0_1 (g := g_read_tale) (m := mLst (mCons (mC (.str "names")) mNil)) (ρ := Lw (some (.scr ms)) (some d) k ts tn t kp du fo ha) rfl eR) hrp) rfl er
    exact sat_ret (sat_of (a := .bl true) (andV_b (b := true) (c := true) p1 fun _ => p2) rfl)

theorem law_true : ∀ ms : List Int, ms.length ≤ 63 → ∃ ρ, g_law [.scr ms] = .ok (.bl true) ρ := law_holds
end VL
namespace VL
open PySem PySem.Spec L2
set_option maxHeartbeats 4000000 in
theorem all_mk {w : World} {K : PySem.W.Frag} {h : Heap} {mg : Str → Option Value} {fa f0 f1 f2 f3 f4 f5 f6 f7 f8 f9 f10 f11 f12 f13 f14 : Addr} {od0 an0 od1 an1 od2 an2 od3 an3 od4 an4 od5 an5 od6 an6 od7 an7 od8 an8 od9 an9 od10 an10 od11 an11 od12 an12 od13 an13 od14 an14 : Option Addr} {sl0 sl1 sl2 sl3 sl4 sl5 sl6 sl7 sl8 sl9 sl10 sl11 sl12 sl13 sl14 : Array (Option Value)} {oc0 kV0 dc0 pm0 cd0 ct0 oc1 kV1 dc1 pm1 cd1 ct1 oc2 kV2 dc2 pm2 cd2 ct2 oc3 kV3 dc3 pm3 cd3 ct3 oc4 kV4 dc4 pm4 cd4 ct4 oc5 kV5 dc5 pm5 cd5 ct5 oc6 kV6 dc6 pm6 cd6 ct6 oc7 kV7 dc7 pm7 cd7 ct7 oc8 kV8 dc8 pm8 cd8 ct8 oc9 kV9 dc9 pm9 cd9 ct9 oc10 kV10 dc10 pm10 cd10 ct10 oc11 kV11 dc11 pm11 cd11 ct11 oc12 kV12 dc12 pm12 cd12 ct12 oc13 kV13 dc13 pm13 cd13 ct13 oc14 kV14 dc14 pm14 cd14 ct14 : Value} {tk_LETTERS tk_LONGEST tk_MOST_NAMES tk_MOST_SAYINGS : Tok} (X : K.In h) (G : h.Ns mainGlobals mg) (hfa : mg "law" = some (.ref fa))
    (a0 : PySem.W.nsIn K mainGlobals "tale_lines" = some (some (.ref f0))) (l0 : K.lookup f0 = some ⟨oc0, od0, .func (PySem.W.fnOf "tale_lines" "tale_lines" (defArgs s_tale_lines) (defBody s_tale_lines) (defScope s_tale_lines) .none kV0 dc0 pm0 an0 cd0 ct0), sl0⟩)
    (e0 : PySem.W.codeIn K cd0 "tale_lines" = true) (k0 : PySem.W.keepIn K (.ref f0) = true)
    (a1 : PySem.W.nsIn K mainGlobals "is_name" = some (some (.ref f1))) (l1 : K.lookup f1 = some ⟨oc1, od1, .func (PySem.W.fnOf "is_name" "is_name" (defArgs s_is_name) (defBody s_is_name) (defScope s_is_name) .none kV1 dc1 pm1 an1 cd1 ct1), sl1⟩)
    (e1 : PySem.W.codeIn K cd1 "is_name" = true) (k1 : PySem.W.keepIn K (.ref f1) = true)
    (a2 : PySem.W.nsIn K mainGlobals "are_names" = some (some (.ref f2))) (l2 : K.lookup f2 = some ⟨oc2, od2, .func (PySem.W.fnOf "are_names" "are_names" (defArgs s_are_names) (defBody s_are_names) (defScope s_are_names) .none kV2 dc2 pm2 an2 cd2 ct2), sl2⟩)
    (e2 : PySem.W.codeIn K cd2 "are_names" = true) (k2 : PySem.W.keepIn K (.ref f2) = true)
    (a3 : PySem.W.nsIn K mainGlobals "is_saying" = some (some (.ref f3))) (l3 : K.lookup f3 = some ⟨oc3, od3, .func (PySem.W.fnOf "is_saying" "is_saying" (defArgs s_is_saying) (defBody s_is_saying) (defScope s_is_saying) .none kV3 dc3 pm3 an3 cd3 ct3), sl3⟩)
    (e3 : PySem.W.codeIn K cd3 "is_saying" = true) (k3 : PySem.W.keepIn K (.ref f3) = true)
    (a4 : PySem.W.nsIn K mainGlobals "read_tale" = some (some (.ref f4))) (l4 : K.lookup f4 = some ⟨oc4, od4, .func (PySem.W.fnOf "read_tale" "read_tale" (defArgs s_read_tale) (defBody s_read_tale) (defScope s_read_tale) .none kV4 dc4 pm4 an4 cd4 ct4), sl4⟩)
    (e4 : PySem.W.codeIn K cd4 "read_tale" = true) (k4 : PySem.W.keepIn K (.ref f4) = true)
    (a5 : PySem.W.nsIn K mainGlobals "_law_feed" = some (some (.ref f5))) (l5 : K.lookup f5 = some ⟨oc5, od5, .func (PySem.W.fnOf "_law_feed" "_law_feed" (defArgs s__law_feed) (defBody s__law_feed) (defScope s__law_feed) .none kV5 dc5 pm5 an5 cd5 ct5), sl5⟩)
    (e5 : PySem.W.codeIn K cd5 "_law_feed" = true) (k5 : PySem.W.keepIn K (.ref f5) = true)
    (a6 : PySem.W.nsIn K mainGlobals "_law_draw" = some (some (.ref f6))) (l6 : K.lookup f6 = some ⟨oc6, od6, .func (PySem.W.fnOf "_law_draw" "_law_draw" (defArgs s__law_draw) (defBody s__law_draw) (defScope s__law_draw) .none kV6 dc6 pm6 an6 cd6 ct6), sl6⟩)
    (e6 : PySem.W.codeIn K cd6 "_law_draw" = true) (k6 : PySem.W.keepIn K (.ref f6) = true)
    (a7 : PySem.W.nsIn K mainGlobals "_law_names" = some (some (.ref f7))) (l7 : K.lookup f7 = some ⟨oc7, od7, .func (PySem.W.fnOf "_law_names" "_law_names" (defArgs s__law_names) (defBody s__law_names) (defScope s__law_names) .none kV7 dc7 pm7 an7 cd7 ct7), sl7⟩)
    (e7 : PySem.W.codeIn K cd7 "_law_names" = true) (k7 : PySem.W.keepIn K (.ref f7) = true)
    (a8 : PySem.W.nsIn K mainGlobals "_law_shuffled" = some (some (.ref f8))) (l8 : K.lookup f8 = some ⟨oc8, od8, .func (PySem.W.fnOf "_law_shuffled" "_law_shuffled" (defArgs s__law_shuffled) (defBody s__law_shuffled) (defScope s__law_shuffled) .none kV8 dc8 pm8 an8 cd8 ct8), sl8⟩)
    (e8 : PySem.W.codeIn K cd8 "_law_shuffled" = true) (k8 : PySem.W.keepIn K (.ref f8) = true)
    (a9 : PySem.W.nsIn K mainGlobals "_law_pairs" = some (some (.ref f9))) (l9 : K.lookup f9 = some ⟨oc9, od9, .func (PySem.W.fnOf "_law_pairs" "_law_pairs" (defArgs s__law_pairs) (defBody s__law_pairs) (defScope s__law_pairs) .none kV9 dc9 pm9 an9 cd9 ct9), sl9⟩)
    (e9 : PySem.W.codeIn K cd9 "_law_pairs" = true) (k9 : PySem.W.keepIn K (.ref f9) = true)
    (a10 : PySem.W.nsIn K mainGlobals "_law_sayings" = some (some (.ref f10))) (l10 : K.lookup f10 = some ⟨oc10, od10, .func (PySem.W.fnOf "_law_sayings" "_law_sayings" (defArgs s__law_sayings) (defBody s__law_sayings) (defScope s__law_sayings) .none kV10 dc10 pm10 an10 cd10 ct10), sl10⟩)
    (e10 : PySem.W.codeIn K cd10 "_law_sayings" = true) (k10 : PySem.W.keepIn K (.ref f10) = true)
    (a11 : PySem.W.nsIn K mainGlobals "_law_half" = some (some (.ref f11))) (l11 : K.lookup f11 = some ⟨oc11, od11, .func (PySem.W.fnOf "_law_half" "_law_half" (defArgs s__law_half) (defBody s__law_half) (defScope s__law_half) .none kV11 dc11 pm11 an11 cd11 ct11), sl11⟩)
    (e11 : PySem.W.codeIn K cd11 "_law_half" = true) (k11 : PySem.W.keepIn K (.ref f11) = true)
    (a12 : PySem.W.nsIn K mainGlobals "_law_tale" = some (some (.ref f12))) (l12 : K.lookup f12 = some ⟨oc12, od12, .func (PySem.W.fnOf "_law_tale" "_law_tale" (defArgs s__law_tale) (defBody s__law_tale) (defScope s__law_tale) .none kV12 dc12 pm12 an12 cd12 ct12), sl12⟩)
    (e12 : PySem.W.codeIn K cd12 "_law_tale" = true) (k12 : PySem.W.keepIn K (.ref f12) = true)
    (a13 : PySem.W.nsIn K mainGlobals "_law_lines" = some (some (.ref f13))) (l13 : K.lookup f13 = some ⟨oc13, od13, .func (PySem.W.fnOf "_law_lines" "_law_lines" (defArgs s__law_lines) (defBody s__law_lines) (defScope s__law_lines) .none kV13 dc13 pm13 an13 cd13 ct13), sl13⟩)
    (e13 : PySem.W.codeIn K cd13 "_law_lines" = true) (k13 : PySem.W.keepIn K (.ref f13) = true)
    (a14 : PySem.W.nsIn K mainGlobals "law" = some (some (.ref f14))) (l14 : K.lookup f14 = some ⟨oc14, od14, .func (PySem.W.fnOf "law" "law" (defArgs s_law) (defBody s_law) (defScope s_law) .none kV14 dc14 pm14 an14 cd14 ct14), sl14⟩)
    (e14 : PySem.W.codeIn K cd14 "law" = true) (k14 : PySem.W.keepIn K (.ref f14) = true)
    {A_HalfError A_NoText : Addr}
    (ac_HalfError : PySem.W.nsIn K mainGlobals "HalfError" = some (some (.ref A_HalfError)))
    (ac_NoText : PySem.W.nsIn K mainGlobals "NoText" = some (some (.ref A_NoText)))
    {nm_NoText q_NoText : Str} {N_NoText : Addr} {bs_NoText : List Value} {sn_NoText : List Str} {sub_NoText : List Value} {ab_NoText : Bool} {col_NoText : Option Bool} {dd_NoText : Option Addr} {m0_NoText m1_NoText m2_NoText m3_NoText m5_NoText : Option Value} {fI_NoText : Addr} {oi_NoText kVi_NoText dci_NoText pmi_NoText cdi_NoText cti_NoText : Value} {odi_NoText ani_NoText : Option Addr} {sli_NoText : Array (Option Value)}
    (xl_NoText : K.lookup A_NoText = some (excClassObj nm_NoText q_NoText A_NoText N_NoText bs_NoText [.ref A_HalfError, .type "ValueError", .type "Exception", .type "BaseException", .type "object"] true sn_NoText sub_NoText ab_NoText col_NoText dd_NoText m0_NoText m1_NoText m2_NoText m3_NoText m5_NoText "ValueError.__new__"))
    (sa_NoText : PySem.W.findIn K (.ref A_NoText) "__setattr__" = some (some (.builtin "object.__setattr__")))
    (i1_NoText : PySem.W.findIn K (.ref A_NoText) "__init__" = some (some (.ref fI_NoText)))
    (t1_NoText : PySem.W.typeIn K (.ref fI_NoText) = some (.type "function"))
    (l1_NoText : K.lookup fI_NoText = some ⟨oi_NoText, odi_NoText, .func (PySem.W.fnOf "__init__" "NoText.__init__" (defArgs s_init_NoText) (defBody s_init_NoText) (defScope s_init_NoText) .none kVi_NoText dci_NoText pmi_NoText ani_NoText cdi_NoText cti_NoText), sli_NoText⟩)
    (c1_NoText : PySem.W.codeIn K cdi_NoText "NoText.__init__" = true)
    (kk_NoText : PySem.W.keepIn K (.ref fI_NoText) = true)
    (nf_NoText_row : PySem.W.findIn K (.ref A_NoText) "row" = some none)
    (ga_NoText : PySem.W.findIn K (.ref A_NoText) "__getattribute__" = some (some (.builtin "BaseException.__getattribute__")))
    (gg_NoText : PySem.W.findIn K (.ref A_NoText) "__getattr__" = some none)
    (cl_NoText : PySem.W.findIn K (.ref A_NoText) "__class__" = some (some (.builtin "object.__class__")))
    (kp_NoText : PySem.W.keepIn K (.ref A_NoText) = true)
    (eb_NoText : PySem.W.subIn K (.ref A_NoText) (.type "BaseException") = some true)
    (ty_NoText : PySem.W.typeIn K (.ref A_NoText) = some (.type "type"))
    (hd_NoText : PySem.W.hasDictIn K A_NoText = true)
    (mo_NoText : PySem.W.mroIn K A_NoText (.type "object") = some true)
    (sg0 : PySem.W.specialIn K (.builtin "object.__class__") "__get__" = some (some (.builtin "getset_descriptor.__get__")))
    (tk0 : PySem.W.takesIn K (.builtin "object.__class__") = some true)
    (rd_HalfError : PySem.W.readsIn K A_HalfError (.type "type") = true)
    (sp_HalfError : PySem.W.specialIn K (.ref A_HalfError) "__getattribute__" = some (some (.builtin "type.__getattribute__")))
    (vv_HalfError : PySem.W.findCls K (.ref A_HalfError) (.type "type") "__init__" = some (.val (.builtin "ValueError.__init__")))
    (z_all : PySem.W.nsIn K mainGlobals "all" = some none)
    (z_int : PySem.W.nsIn K mainGlobals "int" = some none)
    (z_isinstance : PySem.W.nsIn K mainGlobals "isinstance" = some none)
    (z_len : PySem.W.nsIn K mainGlobals "len" = some none)
    (z_list : PySem.W.nsIn K mainGlobals "list" = some none)
    (z_range : PySem.W.nsIn K mainGlobals "range" = some none)
    (z_repr : PySem.W.nsIn K mainGlobals "repr" = some none)
    (z_set : PySem.W.nsIn K mainGlobals "set" = some none)
    (z_str : PySem.W.nsIn K mainGlobals "str" = some none)
    (z_tuple : PySem.W.nsIn K mainGlobals "tuple" = some none)
    (q_LETTERS : PySem.W.nsIn K mainGlobals "LETTERS" = some (some (.str "abcdefghijklmnopqrstuvwxyz" tk_LETTERS)))
    (q_LONGEST : PySem.W.nsIn K mainGlobals "LONGEST" = some (some (.int 8 tk_LONGEST)))
    (q_MOST_NAMES : PySem.W.nsIn K mainGlobals "MOST_NAMES" = some (some (.int 10 tk_MOST_NAMES)))
    (q_MOST_SAYINGS : PySem.W.nsIn K mainGlobals "MOST_SAYINGS" = some (some (.int 60 tk_MOST_SAYINGS)))
    : ∃ fd : FuncData, (∀ (s : Shared) (u : Value), BindsTo s fd ⟨[u], []⟩ [("_law_script", u)]) ∧ ∀ b : Heap, K.In b → b.Ns mainGlobals mg → FnG P w K mg b CX0 6 fa fd ["_law_script"] (spV K mg 1 [.leaf] 0 .leaf g_law) := by
  have e := hfa.symm.trans (PySem.W.mg_of X G a14)
  cases e
  have gs : Gs mg := ⟨PySem.W.mg_none_of X G z_all, PySem.W.mg_none_of X G z_int, PySem.W.mg_none_of X G z_isinstance, PySem.W.mg_none_of X G z_len, PySem.W.mg_none_of X G z_list, PySem.W.mg_none_of X G z_range, PySem.W.mg_none_of X G z_repr, PySem.W.mg_none_of X G z_set, PySem.W.mg_none_of X G z_str, PySem.W.mg_none_of X G z_tuple, ⟨_, PySem.W.mg_of X G q_LETTERS⟩, ⟨_, PySem.W.mg_of X G q_LONGEST⟩, ⟨_, PySem.W.mg_of X G q_MOST_NAMES⟩, ⟨_, PySem.W.mg_of X G q_MOST_SAYINGS⟩⟩
  have F0 := fun_mk (st := s_tale_lines) l0 e0 k0
  have F1 := fun_mk (st := s_is_name) l1 e1 k1
  have F2 := fun_mk (st := s_are_names) l2 e2 k2
  have F3 := fun_mk (st := s_is_saying) l3 e3 k3
  have F4 := fun_mk (st := s_read_tale) l4 e4 k4
  have F5 := fun_mk (st := s__law_feed) l5 e5 k5
  have F6 := fun_mk (st := s__law_draw) l6 e6 k6
  have F7 := fun_mk (st := s__law_names) l7 e7 k7
  have F8 := fun_mk (st := s__law_shuffled) l8 e8 k8
  have F9 := fun_mk (st := s__law_pairs) l9 e9 k9
  have F10 := fun_mk (st := s__law_sayings) l10 e10 k10
  have F11 := fun_mk (st := s__law_half) l11 e11 k11
  have F12 := fun_mk (st := s__law_tale) l12 e12 k12
  have F13 := fun_mk (st := s__law_lines) l13 e13 k13
  have F14 := fun_mk (st := s_law) l14 e14 k14
  refine ⟨PySem.W.fnOf "law" "law" (defArgs s_law) (defBody s_law) (defScope s_law) .none kV14 dc14 pm14 an14 cd14 ct14, fun s v => .of_eq rfl, fun b _ _ => ?_⟩
  have gg_HalfError_ := PySem.W.mg_of X G ac_HalfError
  have gg_NoText_ := PySem.W.mg_of X G ac_NoText
  have ox_NoText : OexC K A_NoText := ⟨⟨nm_NoText, q_NoText, N_NoText, bs_NoText, _, sn_NoText, sub_NoText, ab_NoText, col_NoText, dd_NoText, m0_NoText, m1_NoText, m2_NoText, m3_NoText, m5_NoText, xl_NoText, rfl⟩, sa_NoText, eb_NoText, ty_NoText, kp_NoText⟩
  have FI_NoText := fun_mk (st := s_init_NoText) l1_NoText c1_NoText kk_NoText
  have bI_NoText := FI_NoText.binds (ps := ["self", "row"]) fun _ _ _ _ _ _ us hl => match us, hl with | [_, _], _ => rfl
  have zz_NoText : ExK P w K mg b "NoText" ["row"] A_NoText := exK_of gg_NoText_ ox_NoText i1_NoText t1_NoText (in_NoText (w := w) (base := b) FI_NoText gg_HalfError_ ⟨rd_HalfError, sp_HalfError⟩ vv_HalfError ox_NoText nf_NoText_row) bI_NoText
  have zs : Xs w K mg b A_HalfError A_NoText := ⟨gg_HalfError_, gg_NoText_, zz_NoText, ⟨ga_NoText, gg_NoText, eb_NoText, hd_NoText⟩, ⟨ga_NoText, gg_NoText, eb_NoText, hd_NoText, cl_NoText, sg0, tk0, mo_NoText⟩, nf_NoText_row⟩
  have C_tale_lines := clp_of (fn_tale_lines (w := w) (base := b) F0 gs  ) (PySem.W.mg_of X G a0) F0.kp (F0.binds (ps := ["tale"]) fun _ _ _ _ _ _ us hl => match us, hl with | [_], _ => rfl)
  have C_is_name := clp_of (fn_is_name (w := w) (base := b) F1 gs  ) (PySem.W.mg_of X G a1) F1.kp (F1.binds (ps := ["thing"]) fun _ _ _ _ _ _ us hl => match us, hl with | [_], _ => rfl)
  have C_are_names := clp_of (fn_are_names (w := w) (base := b) F2 gs C_is_name ) (PySem.W.mg_of X G a2) F2.kp (F2.binds (ps := ["thing"]) fun _ _ _ _ _ _ us hl => match us, hl with | [_], _ => rfl)
  have C_is_saying := clp_of (fn_is_saying (w := w) (base := b) F3 gs C_is_name ) (PySem.W.mg_of X G a3) F3.kp (F3.binds (ps := ["names", "thing"]) fun _ _ _ _ _ _ us hl => match us, hl with | [_, _], _ => rfl)
  have CX_read_tale := clp_of (fn_read_tale (w := w) (base := b) F4 gs zs C_are_names C_is_saying ) (PySem.W.mg_of X G a4) F4.kp (F4.binds (ps := ["lines"]) fun _ _ _ _ _ _ us hl => match us, hl with | [_], _ => rfl)
  have C_read_tale : Clp P w K mg b CX0 3 "read_tale" 1 (leaves 1) 0 .leaf g_read_tale := CX_read_tale.noex
  have C__law_feed := clp_of (fn__law_feed (w := w) (base := b) F5 gs  ) (PySem.W.mg_of X G a5) F5.kp (F5.binds (ps := ["_law_script"]) fun _ _ _ _ _ _ us hl => match us, hl with | [_], _ => rfl)
  have C__law_draw := clp_of (fn__law_draw (w := w) (base := b) F6 gs  ) (PySem.W.mg_of X G a6) F6.kp (F6.binds (ps := ["_law_feed_here", "_law_many"]) fun _ _ _ _ _ _ us hl => match us, hl with | [_, _], _ => rfl)
  have C__law_names := clp_of (fn__law_names (w := w) (base := b) F7 gs C__law_draw ) (PySem.W.mg_of X G a7) F7.kp (F7.binds (ps := ["_law_feed_here", "_law_many"]) fun _ _ _ _ _ _ us hl => match us, hl with | [_, _], _ => rfl)
  have C__law_shuffled := clp_of (fn__law_shuffled (w := w) (base := b) F8 gs C__law_draw ) (PySem.W.mg_of X G a8) F8.kp (F8.binds (ps := ["_law_feed_here", "_law_some"]) fun _ _ _ _ _ _ us hl => match us, hl with | [_, _], _ => rfl)
  have C__law_pairs := clp_of (fn__law_pairs (w := w) (base := b) F9 gs C__law_draw ) (PySem.W.mg_of X G a9) F9.kp (F9.binds (ps := ["_law_feed_here", "_law_line"]) fun _ _ _ _ _ _ us hl => match us, hl with | [_, _], _ => rfl)
  have C__law_sayings := clp_of (fn__law_sayings (w := w) (base := b) F10 gs C__law_draw C__law_pairs ) (PySem.W.mg_of X G a10) F10.kp (F10.binds (ps := ["_law_feed_here", "_law_line"]) fun _ _ _ _ _ _ us hl => match us, hl with | [_, _], _ => rfl)
  have C__law_half := clp_of (fn__law_half (w := w) (base := b) F11 gs C__law_draw C__law_names C__law_sayings C__law_shuffled ) (PySem.W.mg_of X G a11) F11.kp (F11.binds (ps := ["_law_feed_here", "_law_most"]) fun _ _ _ _ _ _ us hl => match us, hl with | [_, _], _ => rfl)
  have C__law_tale := clp_of (fn__law_tale (w := w) (base := b) F12 gs C__law_draw C__law_half ) (PySem.W.mg_of X G a12) F12.kp (F12.binds (ps := ["_law_feed_here", "_law_most"]) fun _ _ _ _ _ _ us hl => match us, hl with | [_, _], _ => rfl)
  have C__law_lines := clp_of (fn__law_lines (w := w) (base := b) F13 gs  ) (PySem.W.mg_of X G a13) F13.kp (F13.binds (ps := ["_law_tale_here"]) fun _ _ _ _ _ _ us hl => match us, hl with | [_], _ => rfl)
  exact fn_law (w := w) (base := b) F14 gs C__law_feed C__law_lines C__law_tale C_read_tale C_tale_lines 
end VL
open PySem PySem.W PyProof.Rows
set_option maxHeartbeats 0 in
theorem PySem.Challenge.cw_halforder_k05_lines_there_and_back_holds : PySem.Challenge.rw_halforder_k05_lines_there_and_back.Holds := by
  w_on; o_law; k_head; (case hw => w_witness2)
  k_fill
  refine VL.walk_V (l := PySem.Challenge.rw_halforder_k05_lines_there_and_back) (n := 63) (k := 6) (x := "_law_script") (CX := fun _ => L2.CX0) (g := fun _ _ => VL.g_law) rfl (by decide) rfl ⟨rfl, by decide, by decide⟩ (fun w h Y => PySem.W.kIn_of Y) ?F (fun _ _ ms hl => VL.law_true ms hl) (fun _ _ _ _ _ h => h)
  case F =>
    intro w mg fa h KX G hmg
    refine' VL.all_mk KX G hmg ?a0 ?l0 ?e0 ?k0 ?a1 ?l1 ?e1 ?k1 ?a2 ?l2 ?e2 ?k2 ?a3 ?l3 ?e3 ?k3 ?a4 ?l4 ?e4 ?k4 ?a5 ?l5 ?e5 ?k5 ?a6 ?l6 ?e6 ?k6 ?a7 ?l7 ?e7 ?k7 ?a8 ?l8 ?e8 ?k8 ?a9 ?l9 ?e9 ?k9 ?a10 ?l10 ?e10 ?k10 ?a11 ?l11 ?e11 ?k11 ?a12 ?l12 ?e12 ?k12 ?a13 ?l13 ?e13 ?k13 ?a14 ?l14 ?e14 ?k14 ?ac_HalfError ?ac_NoText ?xl_NoText ?sa_NoText ?i1_NoText ?t1_NoText ?l1_NoText ?c1_NoText ?kk_NoText ?nf_NoText_row ?ga_NoText ?gg_NoText ?cl_NoText ?kp_NoText ?eb_NoText ?ty_NoText ?hd_NoText ?mo_NoText ?sg0 ?tk0 ?rd_HalfError ?sp_HalfError ?vv_HalfError ?z_all ?z_int ?z_isinstance ?z_len ?z_list ?z_range ?z_repr ?z_set ?z_str ?z_tuple ?q_LETTERS ?q_LONGEST ?q_MOST_NAMES ?q_MOST_SAYINGS
    (case a0 => k_is); (case l0 => k_is); (case e0 => k_is); (case k0 => k_is); (case a1 => k_is); (case l1 => k_is); (case e1 => k_is); (case k1 => k_is); (case a2 => k_is); (case l2 => k_is); (case e2 => k_is); (case k2 => k_is); (case a3 => k_is); (case l3 => k_is); (case e3 => k_is); (case k3 => k_is); (case a4 => k_is); (case l4 => k_is); (case e4 => k_is); (case k4 => k_is); (case a5 => k_is); (case l5 => k_is); (case e5 => k_is); (case k5 => k_is); (case a6 => k_is); (case l6 => k_is); (case e6 => k_is); (case k6 => k_is); (case a7 => k_is); (case l7 => k_is); (case e7 => k_is); (case k7 => k_is); (case a8 => k_is); (case l8 => k_is); (case e8 => k_is); (case k8 => k_is); (case a9 => k_is); (case l9 => k_is); (case e9 => k_is); (case k9 => k_is); (case a10 => k_is); (case l10 => k_is); (case e10 => k_is); (case k10 => k_is); (case a11 => k_is); (case l11 => k_is); (case e11 => k_is); (case k11 => k_is); (case a12 => k_is); (case l12 => k_is); (case e12 => k_is); (case k12 => k_is); (case a13 => k_is); (case l13 => k_is); (case e13 => k_is); (case k13 => k_is); (case a14 => k_is); (case l14 => k_is); (case e14 => k_is); (case k14 => k_is); (case ac_HalfError => k_is); (case ac_NoText => k_is); (case xl_NoText => k_is); (case sa_NoText => k_is); (case i1_NoText => k_is); (case t1_NoText => k_is); (case l1_NoText => k_is); (case c1_NoText => k_is); (case kk_NoText => k_is); (case nf_NoText_row => k_is); (case ga_NoText => k_is); (case gg_NoText => k_is); (case cl_NoText => k_is); (case kp_NoText => k_is); (case eb_NoText => k_is); (case ty_NoText => k_is); (case hd_NoText => k_is); (case mo_NoText => k_is); (case sg0 => k_is); (case tk0 => k_is); (case rd_HalfError => k_is); (case sp_HalfError => k_is); (case vv_HalfError => k_is); (case z_all => k_is); (case z_int => k_is); (case z_isinstance => k_is); (case z_len => k_is); (case z_list => k_is); (case z_range => k_is); (case z_repr => k_is); (case z_set => k_is); (case z_str => k_is); (case z_tuple => k_is); (case q_LETTERS => k_is); (case q_LONGEST => k_is); (case q_MOST_NAMES => k_is); (case q_MOST_SAYINGS => k_is)
