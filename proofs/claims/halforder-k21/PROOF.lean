import PyProof.Rows.All
import Wide.All
import OpenK.AllK
import Wide.FinOn
import HandS.ForExc
import HandS.ForMost
import HandS.IsInst
import HandS.TupAny
import HandS.TupMul
import HandS.Strs
import HandS.Conv
import HandS.ExcInit
import HandS.Wide
import HandS.WideBits
import HandS.Text
import HandS.Dict
import HandS.WordsDict
import HandS.TupLen
import HandS.More
import HandS.Iter
import HandS.Zip
import HandS.Comp
import HandS.ExcOwn
import HandS.WordsExc
import HandS.RaiseMore
import KE.KRevSl
import KE.GoesMore
import HandS.TupLe
import HandS.Rev
import HandS.SetFor
import HandS.MapSum
import KE.KDictDisplayH
import PyProof.SumAny
import HandS.Sort
import HandS.TryOnly
import HandS.ExcField
import HandS.ExcIs
import HandS.ClsMeth
import KE.KExcIs
import HandS.TupSets
import KE.KSortTup
import HandS.DeepEq
import KE.KDictZip
import HandS.SetKeys
import HandS.RevRange
import HandS.List
import PyProof.RowDictHeap
import PyProof.AutoSeq1
import HandS.Set
import HandS.SetTxt0
import PyProof.MaxThree
import KE.KDictPairs
import PySem.Challenge.RW_halforder_k21_refusals_by_hand
set_option Elab.async false
set_option linter.all false
set_option maxRecDepth 100000
/-! V0: tuples that are made are known as objects (so that they have no dict of their own, and their methods can be called). -/
namespace VL
open PySem PySem.Spec L2
open PyProof.Rows (IsTup)

def tupO (us : List Value) : Obj := { cls := .type "tuple", data := .seq us.toArray }
abbrev tupC (us : List Value) (xs : List V) : HO := .frz (tupO us) (.tup xs)
def TupF (F : Hp) (p : Addr) (xs : List V) : Prop := ∃ us, F p = some (tupC us xs)
theorem TupF.sq {F : Hp} {p : Addr} {xs : List V} (K : PySem.W.Frag) (h : TupF F p xs) : SqT K F p xs := let ⟨_, e⟩ := h; .inl (.inr ⟨_, e⟩)
theorem TupF.mono {F F' : Hp} {p : Addr} {xs : List V} (s : Same F F') (h : TupF F p xs) : TupF F' p xs := let ⟨us, e⟩ := h; ⟨us, s _ _ e⟩
theorem tupC_ok {P : Program} {w : World} {H : Hp} {h : Heap} {a : Addr} {us : List Value} {xs : List V} (hz : xs.length ≤ sizeLine) (r : Vals xs us) (e : h.get? a = some (tupO us)) : ObjOk P w H h a (tupC us xs) :=
  ⟨e, hz, us, r, ⟨_, e, rfl, _, rfl⟩⟩
section
variable {X : Cx} {pos : Pos} {es : List Expr} {t : TA}
def rCatF (K : PySem.W.Frag) : R2 := fun x y H Q => ∃ a b xs ys, x = .ref a ∧ y = .ref b ∧ SqT K H a xs ∧ SqT K H b ys ∧ xs.length + ys.length ≤ sizeLine ∧
  (xs = [] → Q (.ref b) H) ∧ (xs ≠ [] → ys = [] → Q (.ref a) H) ∧ (xs ≠ [] → ys ≠ [] → ∀ p us, H p = none → Q (.ref p) (upd H p (tupC us (xs ++ ys))))
theorem op_catF : OpR X (binaryOp .Add) (rCatF X.K) := by
  intro pins s σ H x y v u Q I rx ry h
  obtain ⟨a, b, xs, ys, rfl, rfl, ha, hb, hz, q0, q1, q2⟩ := h
  cases rx
  cases ry
  obtain ⟨its, r1, p1, _⟩ := I.tuple ha
  obtain ⟨its2, r2, p2, _⟩ := I.tuple hb
  by_cases hx : xs = []
  · subst hx
    cases r1
    exact cat_tup0 p1 p2 ⟨.ref b, H, I, rfl, q0 rfl⟩
  · refine HT.cat_tup p1 p2 (fun z => hx (r1.nil_iff.mp z)) (fun z => ⟨.ref a, H, I, rfl, q1 hx (r2.nil_iff.mp z)⟩) (fun z => ?_) (by rw [← r1.length, ← r2.length]; exact hz)
    refine ⟨.ref s.heap.objs.size, _, I.laid (t' := s.toks) (o := tupC (its ++ its2) (xs ++ ys)) (fun b ob q => Heap.get?_push_of_some _ q) (Nat.le_refl _) ?_, rfl, q2 hx (fun w => z (r2.nil_iff.mpr w)) _ _ (I.hok.fresh (Nat.le_refl _))⟩
    exact tupC_ok (by rw [List.length_append]; exact hz) (r1.append r2) (Heap.get?_push_size _ rfl)
def rSlF (K : PySem.W.Frag) : V → Option Int → Option Int → Hp → VK → Prop := fun x lo hi H Q => ∃ a xs, x = .ref a ∧ SqT K H a xs ∧
  (HT.sIx xs.length 0 lo = 0 ∧ HT.sIx xs.length xs.length hi = xs.length → Q (.ref a) H) ∧ (¬ (HT.sIx xs.length 0 lo = 0 ∧ HT.sIx xs.length xs.length hi = xs.length) → ∀ p us, H p = none → Q (.ref p) (upd H p (tupC us (cutV xs lo hi))))
theorem sl_tupF : SlR X (rSlF X.K) := by
  intro pins s σ H x v vl vu lo hi sl Q I rx hs pl pu h
  obtain ⟨a, xs, rfl, hx, q1, q2⟩ := h
  cases rx
  obtain ⟨its, r, ht, hz⟩ := I.tuple hx
  have hlen : its.toArray.size = xs.length := by rw [List.size_toArray]; exact r.length.symm
  refine ⟨"tuple", _, PyProof.Rows.slot_tuple_getitem.lookup, ht.typeIs, ?_⟩
  by_cases hw : HT.sIx xs.length 0 lo = 0 ∧ HT.sIx xs.length xs.length hi = xs.length
  · exact getItem_tuple_whole ht hs pl pu (by rw [hlen]; exact hw) ⟨.ref a, H, I, rfl, q1 hw⟩
  · refine HT.getItem_tuple_cut ht hs pl pu (by rw [hlen]; exact hw) ?_ (by rw [hlen]; exact hz)
    rw [hlen]
    refine ⟨.ref s.heap.objs.size, _, I.laid (t' := s.toks) (o := tupC ((its.drop (HT.sIx xs.length 0 lo)).take (HT.sIx xs.length xs.length hi - HT.sIx xs.length 0 lo)) (cutV xs lo hi)) (fun b ob q => Heap.get?_push_of_some _ q) (Nat.le_refl _) ?_, rfl, q2 hw _ _ (I.hok.fresh (Nat.le_refl _))⟩
    exact tupC_ok (Nat.le_trans (cutV_length xs lo hi) hz) ((r.drop (HT.sIx xs.length 0 lo)).take (HT.sIx xs.length xs.length hi - HT.sIx xs.length 0 lo)) (Heap.get?_push_size _ rfl)
def rRepF (K : PySem.W.Frag) : R2 := fun x y H Q => ∃ l k xs, x = .ref l ∧ y = .int k ∧ SqT K H l xs ∧ xs ≠ [] ∧ 2 ≤ k ∧ k ≤ 1000 ∧ xs.length ≤ 1000 ∧ ∀ p us, H p = none → Q (.ref p) (upd H p (tupC us (List.replicate k.toNat xs).flatten))
theorem op_repF : OpR X (binaryOp .Mult) (rRepF X.K) := by
  intro pins s σ H x y v u Q I rx ry h
  obtain ⟨l, k, xs, rfl, rfl, hT, hne, h1, h2, hz, q⟩ := h
  cases rx
  obtain ⟨t, rfl⟩ := ry
  obtain ⟨its, r, ⟨⟨cls, dd, data, sl⟩, ho, hc, n, hd⟩, hs⟩ := I.tuple hT
  simp only at hc hd
  subst hc hd
  have hle : its.length = xs.length := r.length.symm
  have hn : its ≠ [] := fun e => hne (by
    rw [e] at hle
    exact List.eq_nil_of_length_eq_zero hle.symm)
  have hi : its.toArray.isEmpty = false := by
    cases its with
    | nil => exact absurd rfl hn
    | cons a b => rfl
  have hsz0 : its.toArray.size = xs.length := by rw [List.size_toArray, hle]
  have hm : ((its.toArray.size : Nat) : Int) * k ≤ 1000000 := by
    rw [hsz0]
    have a1 : ((xs.length : Nat) : Int) * k ≤ 1000 * k := Int.mul_le_mul_of_nonneg_right (by omega) (by omega)
    omega
  have flen : (List.replicate k.toNat its).flatten.length ≤ sizeLine := by
    rw [PyProof.Rows.lm_len_rep_flat, hle, sizeLine_eq]
    have a1 : k.toNat * xs.length ≤ 1000 * 1000 := Nat.mul_le_mul (by omega) hz
    omega
  have c0 : (decide (k < -(2 ^ 63)) || decide (k ≥ 2 ^ 63)) = false := by
    rw [decide_eq_false (by omega), decide_eq_false (by omega)] <;> rfl
  have c1 : (its.toArray.isEmpty || k == 1) = false := by
    rw [hi, Bool.false_or]
    exact beq_eq_false_iff_ne.mpr (by omega)
  have c2 : (decide (k ≤ 0) || its.toArray.isEmpty) = false := by
    rw [hi, Bool.or_false]
    exact decide_eq_false (by omega)
  have c4 : Builtin.Tuple.tupleTooMany (((its.toArray.size : Nat) : Int) * k) = false := by
    unfold Builtin.Tuple.tupleTooMany
    rw [sizeLine_eq]
    exact decide_eq_false (by omega)
  refine wpAny_binaryOp_repeat_ref (T := "tuple") (U := "int") (by decide) ⟨_, ho, rfl⟩ (fun s' => typeIs_int s' k t) noFill_tuple_mul F.fills_int_mul F.slot_int_rmul repeat_tuple F.slot_int_index.lookup
    (call_meets F.slot_int_rmul (typeIs_int s k t) F.entry_int_rmul (F.args_int_rmul_2 _ _) (int_rmul_tuple k t l its.toArray n dd sl)
      ⟨ho, rfl, ⟨_, ho, rfl⟩, call_meets F.slot_tuple_mul ⟨_, ho, rfl⟩ F.entry_tuple_mul (F.args_tuple_mul_2 _ _) (tuple_mulW l its.toArray n dd sl k t c0 c1 c2 (by omega) c4 (by rw [size_rep, List.size_toArray]; exact flen)) ⟨ho, ?_⟩⟩)
  rw [size_rep]
  refine ⟨.ref s.heap.objs.size, _, I.laid (t' := s.toks) (o := tupC (List.replicate k.toNat its).flatten (List.replicate k.toNat xs).flatten) (fun b ob q => Heap.get?_push_of_some _ q) (Nat.le_refl _) ?_, rfl, q _ _ (I.hok.fresh (Nat.le_refl _))⟩
  exact tupC_ok (by rw [PyProof.Rows.lm_len_rep_flat, sizeLine_eq]; have a1 : k.toNat * xs.length ≤ 1000 * 1000 := Nat.mul_le_mul (by omega) hz; omega) (r.rep k.toNat) (Heap.get?_push_size _ rfl)
/-- tuple(x) -/
def kTupF (K : PySem.W.Frag) (x : V) (H : Hp) (Q : VK) : Prop :=
  (∃ p xs, x = .ref p ∧ SqL K H p xs ∧ ∀ q us, H q = none → Q (.ref q) (upd H q (tupC us xs))) ∨ (∃ p xs, x = .ref p ∧ SqT K H p xs ∧ Q (.ref p) H)
theorem rl_tupleF (pins : List (Addr × Obj)) (s : Shared) (σ : St) (H : Hp) (x : V) (v : Value) (Q : VK) (I : Inv X pins σ H s) (r : RelV x v) (h : kTupF X.K x H Q) :
    wpAny (model X.prog X.w) X.A (call (.type "tuple") [v]) (EP X pins σ Q) X.xe s := by
  rcases h with ⟨p, xs, rfl, hs, q⟩ | ⟨p, xs, rfl, hs, q⟩
  · obtain rfl : v = .ref p := r
    obtain ⟨its, rv, pl, hz⟩ := I.list hs
    refine call_tuple_list pl.isList (fun h' hk => ?_) (by rw [List.size_toArray, ← rv.length]; exact hz)
    have I1 : Inv X pins σ H { s with heap := h' } := I.kept (t' := s.toks) hk
    have I2 : Inv X pins σ (upd H h'.objs.size (tupC its xs)) { s with heap := h'.push { cls := .type "tuple", data := .seq its.toArray } } :=
      I1.laid (t' := s.toks) (fun b o e => Heap.get?_push_of_some _ e) (Nat.le_refl _) (tupC_ok hz rv (Heap.get?_push_size _ rfl))
    exact ⟨.ref h'.objs.size, upd H h'.objs.size (tupC its xs), I2, rfl, q _ _ (I1.hok.fresh (Nat.le_refl _))⟩
  · obtain rfl : v = .ref p := r
    obtain ⟨its, rv, pl, hz⟩ := I.tuple hs
    exact call_tuple_same pl ⟨.ref p, H, I, rfl, q⟩
theorem pe_tupleOfF {a : Expr} {ta : TE} {p pos : Pos} (hg : Gl X "tuple") (hm : X.mg "tuple" = none) (ha : PE X a ta) (na : starEach [a] X.env = (false, eval a X.env) :: starEach [] X.env := by rfl) :
    PE X (.Call (.Name "tuple" p) [a] [] pos) (tThen ta (kTupF X.K)) := by
  refine ⟨fun pins s σ H Q I h => ?_⟩
  exact PyProof.Rows.Call_ (ld_blt I hg hm PyProof.Rows.boot_tuple (PyProof.Rows.callWith_type1 (one_arg ha I h (fun v s2 x H2 I2 r q => rl_tupleF pins s2 σ H2 x v Q I2 r q) na) na))
end
end VL
/-! V1: data D, how a value bears it in the frozen heap F (Rep), owned cells (OR), the frame's slots (RelL), what a step leaves (Ext). -/
namespace VL
open PySem PySem.Spec L2

inductive D where
  | non | bl (b : Bool) | int (i : Int) | str (x : Str)
  | tup (xs : List D) | lst (xs : List D)
  | dK (kvs : List (Key × D)) | dT (kvs : List (List Key × D))
  | ob (c : Str) (fs : List (Str × D))
  | fin (c : Str) (fs : List (Str × D))
  | exv (c : Str) (fs : List (Str × D))
  | scr (ns : List Int)
  | rp (p : PyData) | ty (n : String)
  | key (ks : List Key)

/-- a text of signs below 128, not too long -/
def asc (x : Str) : Bool := x.cps.all (· < 128) && decide (x.length ≤ 16777216)
def ascK : Key → Bool
  | .inl _ => true
  | .inr x => asc x
/-- what of a cell is mutable by the frame that owns it -/
inductive Sh where
  | leaf | lst (s : Sh) | dic (s : Sh)
  | exc (mg : Str → Option Value) (a : Addr) (cls : Value) (d : Option Addr)
  | ins (C : Addr) (fs : List (Str × Sh))

mutual
/-- v bears the data d, all its objects stand in F -/
inductive Rep (K : PySem.W.Frag) (F : Hp) : V → D → Prop
  | non : Rep K F .non .non
  | bl (b : Bool) : Rep K F (.bl b) (.bl b)
  | int (i : Int) : Rep K F (.int i) (.int i)
  | str (x : Str) (h : asc x = true) : Rep K F (.str x) (.str x)
  | tup {a : Addr} {vs : List V} {ds : List D} : TupF F a vs → Reps K F vs ds → Rep K F (.ref a) (.tup ds)
  | lst {a : Addr} {vs : List V} {ds : List D} : F a = some (.lst vs) → Reps K F vs ds → Rep K F (.ref a) (.lst ds)
  | dK {a : Addr} {o : Obj} {kvs : List (Key × V)} {ds : List (Key × D)} : F a = some (.frz o (.dK kvs)) → kvs.map Prod.fst = ds.map Prod.fst → Reps K F (kvs.map Prod.snd) (ds.map Prod.snd) → Rep K F (.ref a) (.dK ds)
  | dT {a : Addr} {o : Obj} {kvs : List (List Key × V)} {ds : List (List Key × D)} : F a = some (.frz o (.dT kvs)) → kvs.map Prod.fst = ds.map Prod.fst → Reps K F (kvs.map Prod.snd) (ds.map Prod.snd) → Rep K F (.ref a) (.dT ds)
  | scr {a : Addr} {ns : List Int} : SqL K F a (ns.map V.int) → Rep K F (.ref a) (.scr ns)
  | rp (p : PyData) : Rep K F (.str p.shown) (.rp p)
  | ty (n : String) : Rep K F (.ty n) (.ty n)
  | key {a : Addr} {ks : List Key} : F a = some (.tup (ks.map kV)) → ks.all ascK = true → Rep K F (.ref a) (.key ks)
  | ob (a : Addr) (c : Str) (fs : List (Str × D)) : Rep K F (.ref a) (.ob c fs)
  | fin {C p dx : Addr} {c : Str} {fv : List (Str × V)} {fd : List (Str × D)} : PySem.W.nsIn K mainGlobals c = some (some (.ref C)) → F p = some (.ins C dx fv) → fv.map Prod.fst = fd.map Prod.fst → Reps K F (fv.map Prod.snd) (fd.map Prod.snd) → Rep K F (.ref p) (.fin c fd)
  | exn {C p : Addr} {c : Str} : PySem.W.nsIn K mainGlobals c = some (some (.ref C)) → F p = some (exo p C none) → Rep K F (.ref p) (.exv c [])
  | exv {C p dx : Addr} {c : Str} {fv : List (Str × V)} {fd : List (Str × D)} : PySem.W.nsIn K mainGlobals c = some (some (.ref C)) → F p = some (exo p C (some dx)) → F dx = some (exd dx fv) → fv.map Prod.fst = fd.map Prod.fst → Reps K F (fv.map Prod.snd) (fd.map Prod.snd) → Rep K F (.ref p) (.exv c fd)
inductive Reps (K : PySem.W.Frag) (F : Hp) : List V → List D → Prop
  | nil : Reps K F [] []
  | cons {v : V} {d : D} {vs : List V} {ds : List D} : Rep K F v d → Reps K F vs ds → Reps K F (v :: vs) (d :: ds)
end

mutual
theorem Rep.mono {K : PySem.W.Frag} {F F' : Hp} (s : Same F F') : ∀ {v : V} {d : D}, Rep K F v d → Rep K F' v d
  | _, _, .non => .non
  | _, _, .bl b => .bl b
  | _, _, .int i => .int i
  | _, _, .str x h => .str x h
  | _, _, .tup h r => .tup (h.mono s) (Reps.mono s r)
  | _, _, .lst h r => .lst (s _ _ h) (Reps.mono s r)
  | _, _, .dK h e r => .dK (s _ _ h) e (Reps.mono s r)
  | _, _, .dT h e r => .dT (s _ _ h) e (Reps.mono s r)
  | _, _, .scr h => .scr (Same.seq s h)
  | _, _, .rp p => .rp p
  | _, _, .ty n => .ty n
  | _, _, .key h e => .key (s _ _ h) e
  | _, _, .ob a c fs => .ob a c fs
  | _, _, .fin n h e r => .fin n (s _ _ h) e (Reps.mono s r)
  | _, _, .exn n h => .exn n (s _ _ h)
  | _, _, .exv n h h2 e r => .exv n (s _ _ h) (s _ _ h2) e (Reps.mono s r)
theorem Reps.mono {K : PySem.W.Frag} {F F' : Hp} (s : Same F F') : ∀ {vs : List V} {ds : List D}, Reps K F vs ds → Reps K F' vs ds
  | _, _, .nil => .nil
  | _, _, .cons h r => .cons (Rep.mono s h) (Reps.mono s r)
end
theorem Reps.length {K : PySem.W.Frag} {F : Hp} : ∀ {vs : List V} {ds : List D}, Reps K F vs ds → vs.length = ds.length
  | _, _, .nil => rfl
  | _, _, .cons _ r => by rw [List.length_cons, List.length_cons, Reps.length r]
theorem Reps.get {K : PySem.W.Frag} {F : Hp} : ∀ {vs : List V} {ds : List D} {i : Nat} {d : D}, Reps K F vs ds → ds[i]? = some d → ∃ v, vs[i]? = some v ∧ Rep K F v d
  | _, _, _, _, .nil, e => by simp at e
  | _, _, 0, _, .cons r _, e => by simp at e; subst e; exact ⟨_, rfl, r⟩
  | _, _, i + 1, d, .cons _ t, e => by
    obtain ⟨u, h1, h2⟩ := Reps.get (i := i) (d := d) t (by simpa using e)
    exact ⟨u, by simpa using h1, h2⟩
theorem Reps.append {K : PySem.W.Frag} {F : Hp} : ∀ {vs ws : List V} {ds es : List D}, Reps K F vs ds → Reps K F ws es → Reps K F (vs ++ ws) (ds ++ es)
  | _, _, _, _, .nil, s => s
  | _, _, _, _, .cons r t, s => .cons r (Reps.append t s)
theorem Reps.take {K : PySem.W.Frag} {F : Hp} : ∀ {vs : List V} {ds : List D} (n : Nat), Reps K F vs ds → Reps K F (vs.take n) (ds.take n)
  | _, _, 0, _ => .nil
  | _, _, _ + 1, .nil => .nil
  | _, _, n + 1, .cons r t => .cons r (Reps.take n t)
theorem Reps.drop {K : PySem.W.Frag} {F : Hp} : ∀ {vs : List V} {ds : List D} (n : Nat), Reps K F vs ds → Reps K F (vs.drop n) (ds.drop n)
  | _, _, 0, r => r
  | _, _, _ + 1, .nil => .nil
  | _, _, n + 1, .cons _ t => Reps.drop n t
theorem Reps.set {K : PySem.W.Frag} {F : Hp} {v : V} {d : D} (r : Rep K F v d) : ∀ {vs : List V} {ds : List D} (i : Nat), Reps K F vs ds → Reps K F (vs.set i v) (ds.set i d)
  | _, _, _, .nil => .nil
  | _, _, 0, .cons _ t => .cons r t
  | _, _, i + 1, .cons q t => .cons q (Reps.set r i t)
theorem Reps.reverse {K : PySem.W.Frag} {F : Hp} : ∀ {vs : List V} {ds : List D}, Reps K F vs ds → Reps K F vs.reverse ds.reverse
  | _, _, .nil => .nil
  | _, _, .cons r t => by rw [List.reverse_cons, List.reverse_cons]; exact Reps.append (Reps.reverse t) (.cons r .nil)
theorem Reps.replicate {K : PySem.W.Frag} {F : Hp} {vs : List V} {ds : List D} (h : Reps K F vs ds) : ∀ k : Nat, Reps K F (List.replicate k vs).flatten (List.replicate k ds).flatten
  | 0 => .nil
  | k + 1 => by rw [List.replicate_succ, List.replicate_succ, List.flatten_cons, List.flatten_cons]; exact h.append (Reps.replicate h k)

mutual
/-- v bears d; the cells fp are owned (H has them, F not), the rest stands in F -/
inductive OR (K : PySem.W.Frag) (F H : Hp) : Sh → V → D → List Addr → Prop
  | leaf {v : V} {d : D} : Rep K F v d → OR K F H .leaf v d []
  | lst {s : Sh} {p : Addr} {vs : List V} {ds : List D} {fp : List Addr} : F p = none → H p = some (.lst vs) → ORs K F H s vs ds fp → OR K F H (.lst s) (.ref p) (.lst ds) (p :: fp)
  | dK {s : Sh} {p : Addr} {kvs : List (Key × V)} {ds : List (Key × D)} {fp : List Addr} : F p = none → H p = some (.dK kvs) → kvs.map Prod.fst = ds.map Prod.fst → ORs K F H s (kvs.map Prod.snd) (ds.map Prod.snd) fp → OR K F H (.dic s) (.ref p) (.dK ds) (p :: fp)
  | dT {s : Sh} {p : Addr} {kvs : List (List Key × V)} {ds : List (List Key × D)} {fp : List Addr} : F p = none → H p = some (.dT kvs) → kvs.map Prod.fst = ds.map Prod.fst → ORs K F H s (kvs.map Prod.snd) (ds.map Prod.snd) fp → OR K F H (.dic s) (.ref p) (.dT ds) (p :: fp)
  | exc {mg : Str → Option Value} {a C : Addr} {d : Option Addr} {c : Str} {fs : List (Str × D)} : mg c = some (.ref C) → (fs = [] ∧ d = none ∨ ∃ dd vs, d = some dd ∧ F dd = some (.xd ((fs.map Prod.fst).zip vs)) ∧ Reps K F vs (fs.map Prod.snd)) → OR K F H (.exc mg a (.ref C) d) (.ref a) (.ob c fs) []
  | ins {C p dx : Addr} {c : Str} {sf : List (Str × Sh)} {fv : List (Str × V)} {fd : List (Str × D)} {fp : List Addr} : F p = none → F dx = none → H p = some (.ins C dx fv) → H dx = some (.own p) → OF K F H sf fv fd fp → OR K F H (.ins C sf) (.ref p) (.ob c fd) (p :: dx :: fp)
inductive ORs (K : PySem.W.Frag) (F H : Hp) : Sh → List V → List D → List Addr → Prop
  | nil {s : Sh} : ORs K F H s [] [] []
  | cons {s : Sh} {v : V} {d : D} {vs : List V} {ds : List D} {f g : List Addr} : OR K F H s v d f → ORs K F H s vs ds g → ORs K F H s (v :: vs) (d :: ds) (f ++ g)
/-- the fields of an instance, in order; the last ones may be lacking yet -/
inductive OF (K : PySem.W.Frag) (F H : Hp) : List (Str × Sh) → List (Str × V) → List (Str × D) → List Addr → Prop
  | nil {sf : List (Str × Sh)} : OF K F H sf [] [] []
  | cons {x : Str} {s : Sh} {v : V} {d : D} {sf : List (Str × Sh)} {fv : List (Str × V)} {fd : List (Str × D)} {f g : List Addr} : OR K F H s v d f → OF K F H sf fv fd g → OF K F H ((x, s) :: sf) ((x, v) :: fv) ((x, d) :: fd) (f ++ g)
end
theorem OR.leafE {K : PySem.W.Frag} {F H : Hp} {v : V} {d : D} {fp : List Addr} (h : OR K F H .leaf v d fp) : Rep K F v d ∧ fp = [] := by
  cases h with | leaf r => exact ⟨r, rfl⟩
theorem ORs.leafE {K : PySem.W.Frag} {F H : Hp} : ∀ {vs : List V} {ds : List D} {fp : List Addr}, ORs K F H .leaf vs ds fp → Reps K F vs ds ∧ fp = []
  | _, _, _, .nil => ⟨.nil, rfl⟩
  | _, _, _, .cons h r => by
    obtain ⟨a, rfl⟩ := h.leafE
    obtain ⟨b, rfl⟩ := ORs.leafE r
    exact ⟨.cons a b, rfl⟩
theorem ORs.ofReps {K : PySem.W.Frag} {F H : Hp} : ∀ {vs : List V} {ds : List D}, Reps K F vs ds → ORs K F H .leaf vs ds []
  | _, _, .nil => .nil
  | _, _, .cons h r => ORs.cons (f := []) (g := []) (.leaf h) (ORs.ofReps r)

mutual
/-- the owned cells stand in H and not in F -/
theorem OR.own {K : PySem.W.Frag} {F H : Hp} : ∀ {s : Sh} {v : V} {d : D} {fp : List Addr}, OR K F H s v d fp → ∀ a ∈ fp, F a = none ∧ ∃ o, H a = some o
  | _, _, _, _, .leaf _, _, h => by simp at h
  | _, _, _, _, .exc _ _, _, h => by simp at h
  | _, _, _, _, .lst a b r, x, h => by
    rcases List.mem_cons.mp h with rfl | h
    · exact ⟨a, _, b⟩
    · exact ORs.own r x h
  | _, _, _, _, .dK a b _ r, x, h => by
    rcases List.mem_cons.mp h with rfl | h
    · exact ⟨a, _, b⟩
    · exact ORs.own r x h
  | _, _, _, _, .dT a b _ r, x, h => by
    rcases List.mem_cons.mp h with rfl | h
    · exact ⟨a, _, b⟩
    · exact ORs.own r x h
  | _, _, _, _, .ins a a2 b b2 r, x, h => by
    rcases List.mem_cons.mp h with rfl | h
    · exact ⟨a, _, b⟩
    · rcases List.mem_cons.mp h with rfl | h
      · exact ⟨a2, _, b2⟩
      · exact OF.own r x h
theorem ORs.own {K : PySem.W.Frag} {F H : Hp} : ∀ {s : Sh} {vs : List V} {ds : List D} {fp : List Addr}, ORs K F H s vs ds fp → ∀ a ∈ fp, F a = none ∧ ∃ o, H a = some o
  | _, _, _, _, .nil, _, h => by simp at h
  | _, _, _, _, .cons r t, x, h => by
    rcases List.mem_append.mp h with h | h
    · exact OR.own r x h
    · exact ORs.own t x h
theorem OF.own {K : PySem.W.Frag} {F H : Hp} : ∀ {sf : List (Str × Sh)} {fv : List (Str × V)} {fd : List (Str × D)} {fp : List Addr}, OF K F H sf fv fd fp → ∀ a ∈ fp, F a = none ∧ ∃ o, H a = some o
  | _, _, _, _, .nil, _, h => by simp at h
  | _, _, _, _, .cons r t, x, h => by
    rcases List.mem_append.mp h with h | h
    · exact OR.own r x h
    · exact OF.own t x h
end
mutual
/-- the cells stand, F grew -/
theorem OR.frame {K : PySem.W.Frag} {F H F' H' : Hp} (s0 : Same F F') : ∀ {s : Sh} {v : V} {d : D} {fp : List Addr}, OR K F H s v d fp → (∀ a ∈ fp, F' a = none ∧ H' a = H a) → OR K F' H' s v d fp
  | _, _, _, _, .leaf r, _ => .leaf (r.mono s0)
  | _, _, _, _, .exc e h, _ => .exc e (h.imp id fun ⟨dd, vs, h1, h2, h3⟩ => ⟨dd, vs, h1, s0 _ _ h2, h3.mono s0⟩)
  | _, _, _, _, .lst _ b r, h => .lst (h _ List.mem_cons_self).1 ((h _ List.mem_cons_self).2.trans b) (ORs.frame s0 r fun a m => h a (List.mem_cons_of_mem _ m))
  | _, _, _, _, .dK _ b e r, h => .dK (h _ List.mem_cons_self).1 ((h _ List.mem_cons_self).2.trans b) e (ORs.frame s0 r fun a m => h a (List.mem_cons_of_mem _ m))
  | _, _, _, _, .dT _ b e r, h => .dT (h _ List.mem_cons_self).1 ((h _ List.mem_cons_self).2.trans b) e (ORs.frame s0 r fun a m => h a (List.mem_cons_of_mem _ m))
  | _, _, _, _, .ins _ _ b b2 r, h => .ins (h _ List.mem_cons_self).1 (h _ (List.mem_cons_of_mem _ List.mem_cons_self)).1 ((h _ List.mem_cons_self).2.trans b) ((h _ (List.mem_cons_of_mem _ List.mem_cons_self)).2.trans b2) (OF.frame s0 r fun a m => h a (List.mem_cons_of_mem _ (List.mem_cons_of_mem _ m)))
theorem ORs.frame {K : PySem.W.Frag} {F H F' H' : Hp} (s0 : Same F F') : ∀ {s : Sh} {vs : List V} {ds : List D} {fp : List Addr}, ORs K F H s vs ds fp → (∀ a ∈ fp, F' a = none ∧ H' a = H a) → ORs K F' H' s vs ds fp
  | _, _, _, _, .nil, _ => .nil
  | _, _, _, _, .cons r t, h => .cons (OR.frame s0 r fun a m => h a (List.mem_append_left _ m)) (ORs.frame s0 t fun a m => h a (List.mem_append_right _ m))
theorem OF.frame {K : PySem.W.Frag} {F H F' H' : Hp} (s0 : Same F F') : ∀ {sf : List (Str × Sh)} {fv : List (Str × V)} {fd : List (Str × D)} {fp : List Addr}, OF K F H sf fv fd fp → (∀ a ∈ fp, F' a = none ∧ H' a = H a) → OF K F' H' sf fv fd fp
  | _, _, _, _, .nil, _ => .nil
  | _, _, _, _, .cons r t, h => .cons (OR.frame s0 r fun a m => h a (List.mem_append_left _ m)) (OF.frame s0 t fun a m => h a (List.mem_append_right _ m))
end
/-- F with the cells fp as H has them -/
def frz (F H : Hp) (fp : List Addr) : Hp := fun a => if a ∈ fp then H a else F a
theorem frz_in {F H : Hp} {fp : List Addr} {a : Addr} (h : a ∈ fp) : frz F H fp a = H a := by unfold frz; rw [if_pos h]
theorem frz_out {F H : Hp} {fp : List Addr} {a : Addr} (h : a ∉ fp) : frz F H fp a = F a := by unfold frz; rw [if_neg h]
theorem frz_same {F H : Hp} {fp : List Addr} (h : ∀ a ∈ fp, F a = none) : Same F (frz F H fp) := fun a o e => by
  rw [frz_out]
  · exact e
  · intro m; rw [h a m] at e; cases e
theorem frz_sub {F H : Hp} {fp : List Addr} (s : Same F H) : Same (frz F H fp) H := fun a o e => by
  by_cases m : a ∈ fp
  · rw [frz_in m] at e; exact e
  · rw [frz_out m] at e; exact s _ _ e
/-- a cell as it is frozen: a list as it is, a dict locked -/
def Frzd (u w : Option HO) : Prop := (∀ xs, u = some (.lst xs) → w = some (.lst xs)) ∧ (∀ kvs, u = some (.dK kvs) → ∃ o, w = some (.frz o (.dK kvs))) ∧ ∀ kvs, u = some (.dT kvs) → ∃ o, w = some (.frz o (.dT kvs))
mutual
theorem OR.frozen {K : PySem.W.Frag} {F H G : Hp} (s0 : Same F G) : ∀ {s : Sh} {v : V} {d : D} {fp : List Addr}, OR K F H s v d fp → (∀ a ∈ fp, Frzd (H a) (G a)) → Rep K G v d
  | _, _, _, _, .leaf r, _ => r.mono s0
  | _, _, _, _, .exc _ _, _ => .ob _ _ _
  | _, _, _, _, .lst _ b r, h => .lst ((h _ List.mem_cons_self).1 _ b) (ORs.frozen s0 r fun a m => h a (List.mem_cons_of_mem _ m))
  | _, _, _, _, .dK _ b e r, h => let ⟨_, q⟩ := (h _ List.mem_cons_self).2.1 _ b; .dK q e (ORs.frozen s0 r fun a m => h a (List.mem_cons_of_mem _ m))
  | _, _, _, _, .dT _ b e r, h => let ⟨_, q⟩ := (h _ List.mem_cons_self).2.2 _ b; .dT q e (ORs.frozen s0 r fun a m => h a (List.mem_cons_of_mem _ m))
  | _, _, _, _, .ins _ _ _ _ _, _ => .ob _ _ _
theorem ORs.frozen {K : PySem.W.Frag} {F H G : Hp} (s0 : Same F G) : ∀ {s : Sh} {vs : List V} {ds : List D} {fp : List Addr}, ORs K F H s vs ds fp → (∀ a ∈ fp, Frzd (H a) (G a)) → Reps K G vs ds
  | _, _, _, _, .nil, _ => .nil
  | _, _, _, _, .cons r t, h => .cons (OR.frozen s0 r fun a m => h a (List.mem_append_left _ m)) (ORs.frozen s0 t fun a m => h a (List.mem_append_right _ m))
end

/-! ### the slots -/
abbrev DEnv := List (Option D)
inductive RelL (K : PySem.W.Frag) (F H : Hp) : List Sh → DEnv → St → List Addr → Prop
  | nil : RelL K F H [] [] [] []
  | non {s : Sh} {ks : List Sh} {ρ : DEnv} {σ : St} {x : Option V} {fp : List Addr} : RelL K F H ks ρ σ fp → RelL K F H (s :: ks) (none :: ρ) (x :: σ) fp
  | som {s : Sh} {ks : List Sh} {ρ : DEnv} {σ : St} {v : V} {d : D} {f fp : List Addr} : OR K F H s v d f → RelL K F H ks ρ σ fp → RelL K F H (s :: ks) (some d :: ρ) (some v :: σ) (f ++ fp)
section
variable {K : PySem.W.Frag} {F H F' H' : Hp}
theorem RelL.own : ∀ {ks : List Sh} {ρ : DEnv} {σ : St} {fp : List Addr}, RelL K F H ks ρ σ fp → ∀ a ∈ fp, F a = none ∧ ∃ o, H a = some o
  | _, _, _, _, .nil, _, h => by simp at h
  | _, _, _, _, .non r, x, h => RelL.own r x h
  | _, _, _, _, .som r t, x, h => by
    rcases List.mem_append.mp h with h | h
    · exact r.own x h
    · exact RelL.own t x h
theorem RelL.frame (s0 : Same F F') : ∀ {ks : List Sh} {ρ : DEnv} {σ : St} {fp : List Addr}, RelL K F H ks ρ σ fp → (∀ a ∈ fp, F' a = none ∧ H' a = H a) → RelL K F' H' ks ρ σ fp
  | _, _, _, _, .nil, _ => .nil
  | _, _, _, _, .non r, h => .non (RelL.frame s0 r h)
  | _, _, _, _, .som r t, h => .som (r.frame s0 fun a m => h a (List.mem_append_left _ m)) (RelL.frame s0 t fun a m => h a (List.mem_append_right _ m))
theorem RelL.lens : ∀ {ks : List Sh} {ρ : DEnv} {σ : St} {fp : List Addr}, RelL K F H ks ρ σ fp → ks.length = ρ.length ∧ ρ.length = σ.length
  | _, _, _, _, .nil => ⟨rfl, rfl⟩
  | _, _, _, _, .non r => by obtain ⟨a, b⟩ := RelL.lens r; simp [a, b]
  | _, _, _, _, .som _ r => by obtain ⟨a, b⟩ := RelL.lens r; simp [a, b]
/-- a slot taken out -/
theorem RelL.split : ∀ {ks : List Sh} {ρ : DEnv} {σ : St} {fp : List Addr} {i : Nat} {s : Sh} {d : D}, RelL K F H ks ρ σ fp → ks[i]? = some s → ρ[i]? = some (some d) →
    ∃ v f g, σ[i]? = some (some v) ∧ OR K F H s v d f ∧ RelL K F H ks (ρ.set i none) σ g ∧ fp.Perm (f ++ g)
  | _, _, _, _, i, _, _, .nil, h, _ => by simp at h
  | _, _, _, _, 0, _, _, .non r, h, e => by simp at e
  | _, _, _, _, 0, _, _, .som (f := f) (fp := fp) o r, h, e => by
    simp at h e
    subst h e
    exact ⟨_, f, fp, rfl, o, .non r, .rfl⟩
  | _, _, _, _, i + 1, _, _, .non r, h, e => by
    obtain ⟨v, f, g, a, b, c, p⟩ := RelL.split (i := i) r (by simpa using h) (by simpa using e)
    exact ⟨v, f, g, by simpa using a, b, .non c, p⟩
  | _, _, _, _, i + 1, _, _, .som (f := f0) o r, h, e => by
    obtain ⟨v, f, g, a, b, c, p⟩ := RelL.split (i := i) r (by simpa using h) (by simpa using e)
    refine ⟨v, f, f0 ++ g, by simpa using a, b, .som o c, ?_⟩
    refine (List.Perm.append_left f0 p).trans ?_
    rw [← List.append_assoc, ← List.append_assoc]
    exact List.Perm.append_right g List.perm_append_comm
/-- a slot's data forgotten -/
theorem RelL.wipe1 : ∀ {ks : List Sh} {ρ : DEnv} {σ : St} {fp : List Addr} (i : Nat), RelL K F H ks ρ σ fp → ∃ g, RelL K F H ks (ρ.set i none) σ g ∧ g.Sublist fp
  | _, _, _, _, i, .nil => ⟨[], .nil, .refl _⟩
  | _, _, _, _, 0, .non r => ⟨_, .non r, .refl _⟩
  | _, _, _, _, 0, .som o r => ⟨_, .non r, List.sublist_append_right _ _⟩
  | _, _, _, _, i + 1, .non r => by
    obtain ⟨g, a, b⟩ := RelL.wipe1 i r
    exact ⟨g, .non a, b⟩
  | _, _, _, _, i + 1, .som o r => by
    obtain ⟨g, a, b⟩ := RelL.wipe1 i r
    exact ⟨_, .som o a, List.Sublist.append (.refl _) b⟩
/-- an empty slot of the frame may hold any value -/
theorem RelL.setV : ∀ {ks : List Sh} {ρ : DEnv} {σ : St} {fp : List Addr} (i : Nat) (x : Option V), RelL K F H ks (ρ.set i none) σ fp → RelL K F H ks (ρ.set i none) (σ.set i x) fp
  | _, [], _, _, i, x, r => by cases r; exact .nil
  | _, _ :: ρ, _, _, 0, x, r => by
    rw [List.set_cons_zero] at r ⊢
    cases r with | non r => exact .non r
  | _, _ :: ρ, _, _, i + 1, x, r => by
    rw [List.set_cons_succ] at r ⊢
    cases r with
    | non r => exact .non (RelL.setV i x r)
    | som o r => exact .som o (RelL.setV i x r)
/-- a slot filled -/
theorem RelL.join {s : Sh} {v : V} {d : D} {f : List Addr} (o : OR K F H s v d f) : ∀ {ks : List Sh} {ρ : DEnv} {σ : St} {g : List Addr} {i : Nat}, RelL K F H ks (ρ.set i none) σ g → ks[i]? = some s → σ[i]? = some (some v) →
    ∃ fp, RelL K F H ks (ρ.set i (some d)) σ fp ∧ fp.Perm (f ++ g)
  | _, [], _, _, i, r, h, e => by cases r; simp at h
  | _, _ :: ρ, _, _, 0, r, h, e => by
    rw [List.set_cons_zero] at r ⊢
    cases r with
    | non r =>
      simp at h e
      subst h e
      exact ⟨_, .som o r, .rfl⟩
  | _, _ :: ρ, _, _, i + 1, r, h, e => by
    rw [List.set_cons_succ] at r ⊢
    cases r with
    | non r =>
      obtain ⟨fp, a, b⟩ := RelL.join o (i := i) r (by simpa using h) (by simpa using e)
      exact ⟨fp, .non a, b⟩
    | som o' r =>
      rename_i f0 g0
      obtain ⟨fp, a, b⟩ := RelL.join o (i := i) r (by simpa using h) (by simpa using e)
      refine ⟨_, .som o' a, ?_⟩
      refine (List.Perm.append_left f0 b).trans ?_
      rw [← List.append_assoc, ← List.append_assoc]
      exact List.Perm.append_right g0 List.perm_append_comm
end
/-- F within H, with all tuples of H -/
structure Sub (F H : Hp) : Prop where
  sm : Same F H
  tp : ∀ a xs, H a = some (.tup xs) → F a = some (.tup xs)
instance {F H : Hp} : Coe (Sub F H) (Same F H) := ⟨Sub.sm⟩
instance {F H : Hp} : CoeFun (Sub F H) (fun _ => ∀ a o, F a = some o → H a = some o) := ⟨fun s => s.sm⟩
/-- the state: F within H, the slots -/
structure Rel (K : PySem.W.Frag) (ks : List Sh) (F H : Hp) (ρ : DEnv) (σ : St) (fp : List Addr) : Prop where
  sub : Sub F H
  nd : fp.Nodup
  sl : RelL K F H ks ρ σ fp
/-- what a step leaves: outside fp all stands, and F has grown by new cells alone; gp is of fp or new -/
structure Ext (F H : Hp) (fp : List Addr) (F' H' : Hp) (gp : List Addr) : Prop where
  keep : ∀ a o, H a = some o → a ∉ fp → H' a = some o ∧ F' a = F a
  fr : ∀ a ∈ gp, a ∈ fp ∨ H a = none
section
variable {F H F1 H1 F2 H2 : Hp} {fp f1 f2 g g' : List Addr}
theorem Ext.refl : Ext F H fp F H fp := ⟨fun _ _ e _ => ⟨e, rfl⟩, fun _ m => .inl m⟩
theorem Ext.trans (a : Ext F H fp F1 H1 f1) (b : Ext F1 H1 f1 F2 H2 f2) : Ext F H fp F2 H2 f2 := by
  have nin : ∀ {x : Addr} {o : HO}, H x = some o → x ∉ fp → x ∉ f1 := fun {x o} e n m => by
    rcases a.fr x m with z | z
    · exact n z
    · rw [z] at e; cases e
  refine ⟨fun x o e n => ?_, fun x m => ?_⟩
  · obtain ⟨p, q⟩ := a.keep x o e n
    obtain ⟨p', q'⟩ := b.keep x o p (nin e n)
    exact ⟨p', q'.trans q⟩
  · by_cases n : x ∈ fp
    · exact .inl n
    · refine .inr ?_
      rcases b.fr x m with z | z
      · exact (a.fr x z).resolve_left n
      · cases e : H x with
        | none => rfl
        | some o =>
          obtain ⟨p, _⟩ := a.keep x o e n
          rw [z] at p; cases p
theorem Ext.sub (a : Ext F H fp F1 H1 g) (h : ∀ x ∈ g', x ∈ g) : Ext F H fp F1 H1 g' := ⟨a.keep, fun x m => a.fr x (h x m)⟩
/-- F only grows -/
theorem Ext.same (a : Ext F H fp F1 H1 g) (s : Same F H) (o : ∀ x ∈ fp, F x = none) : Same F F1 := fun x y e => by
  obtain ⟨_, q⟩ := a.keep x y (s x y e) fun m => by rw [o x m] at e; cases e
  rw [q]; exact e
end
end VL
/-! V2: results, the judgements of soundness, views, the general rules. -/
namespace VL
open PySem PySem.Spec L2

/-- an exception: its class by name, its fields -/
structure Ex where
  c : Str
  fs : List (Str × D)
inductive R (α : Type) where
  | ok (a : α) (ρ : DEnv) | ex (e : Ex) (ρ : DEnv) | no
def R.bind {α β : Type} (r : R α) (f : α → DEnv → R β) : R β := match r with
  | .ok a ρ => f a ρ
  | .ex e ρ => .ex e ρ
  | .no => .no
@[simp] theorem R.bind_ok {α β : Type} (a : α) (ρ : DEnv) (f : α → DEnv → R β) : (R.ok a ρ).bind f = f a ρ := rfl
@[simp] theorem R.bind_ex {α β : Type} (e : Ex) (ρ : DEnv) (f : α → DEnv → R β) : (R.ex e ρ : R α).bind f = .ex e ρ := rfl
@[simp] theorem R.bind_no {α β : Type} (f : α → DEnv → R β) : (R.no : R α).bind f = .no := rfl
/-- a value or nothing -/
def R.of {α : Type} (o : Option α) (ρ : DEnv) : R α := match o with
  | some a => .ok a ρ
  | none => .no
@[simp] theorem R.of_some {α : Type} (a : α) (ρ : DEnv) : R.of (some a) ρ = .ok a ρ := rfl
@[simp] theorem R.of_none {α : Type} (ρ : DEnv) : (R.of none ρ : R α) = .no := rfl
abbrev ME := DEnv → R D
abbrev MT := DEnv → R Bool
abbrev MA := DEnv → R (List D)

/-- what stands fast in a def -/
structure Bd where
  K : PySem.W.Frag
  mg : Str → Option Value
  ks : List Sh
  W : WX
/-- an exception as it lies -/
def ExR (b : Bd) (F : Hp) (e : Ex) (cls : Value) (dx : Option Addr) : Prop :=
  ∃ C, b.mg e.c = some (.ref C) ∧ cls = .ref C ∧ (e.fs = [] ∧ dx = none ∨ ∃ d vs, dx = some d ∧ F d = some (.xd ((e.fs.map Prod.fst).zip vs)) ∧ Reps b.K F vs (e.fs.map Prod.snd))
/-- the exception's end -/
def OkX (b : Bd) (F H : Hp) (fp : List Addr) (σ : St) (e : Ex) (ρ' : DEnv) : Prop :=
  ∀ cls dx F' H' fp', Rel b.K b.ks F' H' ρ' σ fp' → Ext F H fp F' H' fp' → ExR b F' e cls dx → b.W cls dx σ H'
def OkE (b : Bd) (sh : Sh) (F H : Hp) (fp : List Addr) (σ : St) (Q : VK) : R D → Prop
  | .no => False
  | .ok d ρ' => ∀ v F' H' fp' fv, Rel b.K b.ks F' H' ρ' σ fp' → (fp' ++ fv).Nodup → Ext F H fp F' H' (fp' ++ fv) → OR b.K F' H' sh v d fv → Q v H'
  | .ex e ρ' => OkX b F H fp σ e ρ'
def OkT (b : Bd) (F H : Hp) (fp : List Addr) (σ : St) (Q : Bool → Hp → Prop) : R Bool → Prop
  | .no => False
  | .ok c ρ' => ∀ F' H' fp', Rel b.K b.ks F' H' ρ' σ fp' → Ext F H fp F' H' fp' → Q c H'
  | .ex e ρ' => OkX b F H fp σ e ρ'
def OkA (b : Bd) (F H : Hp) (fp : List Addr) (σ : St) (Q : List V → Hp → Prop) : R (List D) → Prop
  | .no => False
  | .ok ds ρ' => ∀ vs F' H' fp', Rel b.K b.ks F' H' ρ' σ fp' → Ext F H fp F' H' fp' → Reps b.K F' vs ds → Q vs H'
  | .ex e ρ' => OkX b F H fp σ e ρ'
/-- an operand: a value, or the owned thing of a slot (its data is looked up when it is used) -/
inductive Opd where
  | v (d : D) | s (i : Nat)
abbrev MO := DEnv → R Opd
def Opd.get : Opd → DEnv → Option D
  | .v d, _ => some d
  | .s i, ρ => (ρ[i]?).bind id
def OpdOk (b : Bd) (F : Hp) (σ : St) (x : V) : Opd → Prop
  | .v d => Rep b.K F x d
  | .s i => σ[i]? = some (some x) ∧ (b.ks[i]? = some (.lst .leaf) ∨ b.ks[i]? = some (.dic .leaf))
def OkO (b : Bd) (F H : Hp) (fp : List Addr) (σ : St) (Q : VK) : R Opd → Prop
  | .no => False
  | .ok o ρ' => ∀ v F' H' fp', Rel b.K b.ks F' H' ρ' σ fp' → Ext F H fp F' H' fp' → OpdOk b F' σ v o → Q v H'
  | .ex e ρ' => OkX b F H fp σ e ρ'
def OkOs (b : Bd) (F H : Hp) (fp : List Addr) (σ : St) (Q : List V → Hp → Prop) : R (List Opd) → Prop
  | .no => False
  | .ok os ρ' => ∀ vs F' H' fp', Rel b.K b.ks F' H' ρ' σ fp' → Ext F H fp F' H' fp' → Paired (fun o v => OpdOk b F' σ v o) os vs → Q vs H'
  | .ex e ρ' => OkX b F H fp σ e ρ'

def SndE (b : Bd) (sh : Sh) (t : TE) (m : ME) : Prop := ∀ ρ σ F H fp Q, Rel b.K b.ks F H ρ σ fp → OkE b sh F H fp σ Q (m ρ) → t σ H Q
def SndT (b : Bd) (t : TT) (m : MT) : Prop := ∀ ρ σ F H fp Q, Rel b.K b.ks F H ρ σ fp → OkT b F H fp σ Q (m ρ) → t σ H Q
def SndA (b : Bd) (t : TA) (m : MA) : Prop := ∀ ρ σ F H fp Q, Rel b.K b.ks F H ρ σ fp → OkA b F H fp σ Q (m ρ) → t σ H Q
def SndO (b : Bd) (t : TE) (m : MO) : Prop := ∀ ρ σ F H fp Q, Rel b.K b.ks F H ρ σ fp → OkO b F H fp σ Q (m ρ) → t σ H Q
def SndOs (b : Bd) (t : TA) (m : DEnv → R (List Opd)) : Prop := ∀ ρ σ F H fp Q, Rel b.K b.ks F H ρ σ fp → OkOs b F H fp σ Q (m ρ) → t σ H Q

section
variable {b : Bd} {sh : Sh} {F H F1 H1 : Hp} {fp f1 : List Addr} {σ : St}
theorem OkX.ext {e : Ex} {ρ' : DEnv} (a : Ext F H fp F1 H1 f1) (h : OkX b F H fp σ e ρ') : OkX b F1 H1 f1 σ e ρ' := fun cls dx F' H' fp' r x => h cls dx F' H' fp' r (a.trans x)
theorem OkE.ext {Q : VK} (a : Ext F H fp F1 H1 f1) : ∀ {r : R D}, OkE b sh F H fp σ Q r → OkE b sh F1 H1 f1 σ Q r
  | .no, h => h
  | .ok d ρ', h => fun v F' H' fp' fv r n x o => h v F' H' fp' fv r n (a.trans x) o
  | .ex e ρ', h => OkX.ext a h
theorem OkT.ext {Q : Bool → Hp → Prop} (a : Ext F H fp F1 H1 f1) : ∀ {r : R Bool}, OkT b F H fp σ Q r → OkT b F1 H1 f1 σ Q r
  | .no, h => h
  | .ok d ρ', h => fun F' H' fp' r x => h F' H' fp' r (a.trans x)
  | .ex e ρ', h => OkX.ext a h
theorem OkA.ext {Q : List V → Hp → Prop} (a : Ext F H fp F1 H1 f1) : ∀ {r : R (List D)}, OkA b F H fp σ Q r → OkA b F1 H1 f1 σ Q r
  | .no, h => h
  | .ok d ρ', h => fun v F' H' fp' r x => h v F' H' fp' r (a.trans x)
  | .ex e ρ', h => OkX.ext a h
theorem OkO.ext {Q : VK} (a : Ext F H fp F1 H1 f1) : ∀ {r : R Opd}, OkO b F H fp σ Q r → OkO b F1 H1 f1 σ Q r
  | .no, h => h
  | .ok d ρ', h => fun v F' H' fp' r x => h v F' H' fp' r (a.trans x)
  | .ex e ρ', h => OkX.ext a h
theorem OkOs.ext {Q : List V → Hp → Prop} (a : Ext F H fp F1 H1 f1) : ∀ {r : R (List Opd)}, OkOs b F H fp σ Q r → OkOs b F1 H1 f1 σ Q r
  | .no, h => h
  | .ok d ρ', h => fun v F' H' fp' r x => h v F' H' fp' r (a.trans x)
  | .ex e ρ', h => OkX.ext a h
theorem Rel.same {K : PySem.W.Frag} {ks : List Sh} {ρ : DEnv} (r : Rel K ks F H ρ σ fp) (a : Ext F H fp F1 H1 f1) : Same F F1 := a.same r.sub fun x m => (r.sl.own x m).1
theorem OpdOk.mono {v : V} (s : Same F F1) : ∀ {o : Opd}, OpdOk b F σ v o → OpdOk b F1 σ v o
  | .v d, h => Rep.mono s h
  | .s i, h => h
end

/-! ### one step, then another -/
section
variable {b : Bd} {t : TE} {ρ : DEnv} {σ : St} {F H : Hp} {fp : List Addr} {P : VK}
theorem SndE.go {m : ME} (h : SndE b .leaf t m) (r : Rel b.K b.ks F H ρ σ fp) {α : Type} {f : D → DEnv → R α} {Ok : R α → Prop} (hok : Ok ((m ρ).bind f)) (hn : ¬ Ok .no) (hx : ∀ e ρ1, Ok (.ex e ρ1) → OkX b F H fp σ e ρ1)
    (k : ∀ d ρ1 v F1 H1 fp1, Ok (f d ρ1) → Rel b.K b.ks F1 H1 ρ1 σ fp1 → Ext F H fp F1 H1 fp1 → Rep b.K F1 v d → P v H1) : t σ H P := by
  refine h ρ σ F H fp P r ?_
  cases e : m ρ with
  | no => rw [e] at hok; exact (hn hok).elim
  | ex x ρ1 => rw [e] at hok; exact hx _ _ hok
  | ok d ρ1 =>
    rw [e] at hok
    intro v F1 H1 fp1 fv r1 nd x1 o1
    obtain ⟨rp, rfl⟩ := o1.leafE
    rw [List.append_nil] at x1
    exact k d ρ1 v F1 H1 fp1 hok r1 x1 rp
theorem SndO.go {m : MO} (h : SndO b t m) (r : Rel b.K b.ks F H ρ σ fp) {α : Type} {f : Opd → DEnv → R α} {Ok : R α → Prop} (hok : Ok ((m ρ).bind f)) (hn : ¬ Ok .no) (hx : ∀ e ρ1, Ok (.ex e ρ1) → OkX b F H fp σ e ρ1)
    (k : ∀ o ρ1 v F1 H1 fp1, Ok (f o ρ1) → Rel b.K b.ks F1 H1 ρ1 σ fp1 → Ext F H fp F1 H1 fp1 → OpdOk b F1 σ v o → P v H1) : t σ H P := by
  refine h ρ σ F H fp P r ?_
  cases e : m ρ with
  | no => rw [e] at hok; exact (hn hok).elim
  | ex x ρ1 => rw [e] at hok; exact hx _ _ hok
  | ok d ρ1 =>
    rw [e] at hok
    intro v F1 H1 fp1 r1 x1 o1
    exact k d ρ1 v F1 H1 fp1 hok r1 x1 o1
end
section
variable {b : Bd} {ρ : DEnv} {σ : St} {F H : Hp} {fp : List Addr}
theorem SndT.go {t : TT} {P : Bool → Hp → Prop} {m : MT} (h : SndT b t m) (r : Rel b.K b.ks F H ρ σ fp) {α : Type} {f : Bool → DEnv → R α} {Ok : R α → Prop} (hok : Ok ((m ρ).bind f)) (hn : ¬ Ok .no) (hx : ∀ e ρ1, Ok (.ex e ρ1) → OkX b F H fp σ e ρ1)
    (k : ∀ c ρ1 F1 H1 fp1, Ok (f c ρ1) → Rel b.K b.ks F1 H1 ρ1 σ fp1 → Ext F H fp F1 H1 fp1 → P c H1) : t σ H P := by
  refine h ρ σ F H fp P r ?_
  cases e : m ρ with
  | no => rw [e] at hok; exact (hn hok).elim
  | ex x ρ1 => rw [e] at hok; exact hx _ _ hok
  | ok d ρ1 =>
    rw [e] at hok
    intro F1 H1 fp1 r1 x1
    exact k d ρ1 F1 H1 fp1 hok r1 x1
theorem SndA.go {t : TA} {P : List V → Hp → Prop} {m : MA} (h : SndA b t m) (r : Rel b.K b.ks F H ρ σ fp) {α : Type} {f : List D → DEnv → R α} {Ok : R α → Prop} (hok : Ok ((m ρ).bind f)) (hn : ¬ Ok .no) (hx : ∀ e ρ1, Ok (.ex e ρ1) → OkX b F H fp σ e ρ1)
    (k : ∀ ds ρ1 vs F1 H1 fp1, Ok (f ds ρ1) → Rel b.K b.ks F1 H1 ρ1 σ fp1 → Ext F H fp F1 H1 fp1 → Reps b.K F1 vs ds → P vs H1) : t σ H P := by
  refine h ρ σ F H fp P r ?_
  cases e : m ρ with
  | no => rw [e] at hok; exact (hn hok).elim
  | ex x ρ1 => rw [e] at hok; exact hx _ _ hok
  | ok d ρ1 =>
    rw [e] at hok
    intro v F1 H1 fp1 r1 x1 o1
    exact k d ρ1 v F1 H1 fp1 hok r1 x1 o1
theorem SndOs.go {t : TA} {P : List V → Hp → Prop} {m : DEnv → R (List Opd)} (h : SndOs b t m) (r : Rel b.K b.ks F H ρ σ fp) {α : Type} {f : List Opd → DEnv → R α} {Ok : R α → Prop} (hok : Ok ((m ρ).bind f)) (hn : ¬ Ok .no) (hx : ∀ e ρ1, Ok (.ex e ρ1) → OkX b F H fp σ e ρ1)
    (k : ∀ ds ρ1 vs F1 H1 fp1, Ok (f ds ρ1) → Rel b.K b.ks F1 H1 ρ1 σ fp1 → Ext F H fp F1 H1 fp1 → Paired (fun o v => OpdOk b F1 σ v o) ds vs → P vs H1) : t σ H P := by
  refine h ρ σ F H fp P r ?_
  cases e : m ρ with
  | no => rw [e] at hok; exact (hn hok).elim
  | ex x ρ1 => rw [e] at hok; exact hx _ _ hok
  | ok d ρ1 =>
    rw [e] at hok
    intro v F1 H1 fp1 r1 x1 o1
    exact k d ρ1 v F1 H1 fp1 hok r1 x1 o1
end

/-! ### views: a value as it is read now; its parts in F -/
inductive Vw (K : PySem.W.Frag) (F H : Hp) : V → D → Prop
  | rep {v : V} {d : D} : Rep K F v d → Vw K F H v d
  | lst {p : Addr} {vs : List V} {ds : List D} : H p = some (.lst vs) → Reps K F vs ds → Vw K F H (.ref p) (.lst ds)
  | dK {p : Addr} {kvs : List (Key × V)} {ds : List (Key × D)} : H p = some (.dK kvs) → kvs.map Prod.fst = ds.map Prod.fst → Reps K F (kvs.map Prod.snd) (ds.map Prod.snd) → Vw K F H (.ref p) (.dK ds)
  | dT {p : Addr} {kvs : List (List Key × V)} {ds : List (List Key × D)} : H p = some (.dT kvs) → kvs.map Prod.fst = ds.map Prod.fst → Reps K F (kvs.map Prod.snd) (ds.map Prod.snd) → Vw K F H (.ref p) (.dT ds)
/-- no dict -/
def D.nod : D → Bool
  | .dK _ => false
  | .dT _ => false
  | _ => true
theorem Vw.whole {K : PySem.W.Frag} {F H : Hp} (s : Sub F H) {v : V} {d : D} (h : Vw K F H v d) (nd : d.nod = true) : Rep K H v d := by
  cases h with
  | rep r => exact r.mono s
  | lst e r => exact .lst e (r.mono s)
  | dK e k r => cases nd
  | dT e k r => cases nd
theorem Vw.lstE {K : PySem.W.Frag} {F H : Hp} (s : Sub F H) {v : V} {ds : List D} (h : Vw K F H v (.lst ds)) : ∃ p vs, v = .ref p ∧ H p = some (.lst vs) ∧ Reps K F vs ds := by
  cases h with
  | rep r => cases r with | lst e r => exact ⟨_, _, rfl, s _ _ e, r⟩
  | lst e r => exact ⟨_, _, rfl, e, r⟩
theorem Vw.keyE {K : PySem.W.Frag} {F H : Hp} {v : V} {ks : List Key} (h : Vw K F H v (.key ks)) : ∃ p, v = .ref p ∧ F p = some (.tup (ks.map kV)) ∧ ks.all ascK = true := by
  cases h with
  | rep r => cases r with | key e r => exact ⟨_, rfl, e, r⟩
theorem Vw.tupE {K : PySem.W.Frag} {F H : Hp} {v : V} {ds : List D} (h : Vw K F H v (.tup ds)) : ∃ p vs, v = .ref p ∧ TupF F p vs ∧ Reps K F vs ds := by
  cases h with
  | rep r => cases r with | tup e r => exact ⟨_, _, rfl, e, r⟩
theorem Vw.strE {K : PySem.W.Frag} {F H : Hp} {v : V} {x : Str} (h : Vw K F H v (.str x)) : v = .str x ∧ asc x = true := by
  cases h with
  | rep r => cases r with | str _ e => exact ⟨rfl, e⟩
theorem Vw.intE {K : PySem.W.Frag} {F H : Hp} {v : V} {x : Int} (h : Vw K F H v (.int x)) : v = .int x := by
  cases h with
  | rep r => cases r; rfl
theorem Vw.blE {K : PySem.W.Frag} {F H : Hp} {v : V} {x : Bool} (h : Vw K F H v (.bl x)) : v = .bl x := by
  cases h with
  | rep r => cases r; rfl
theorem Vw.scrE {K : PySem.W.Frag} {F H : Hp} {v : V} {ns : List Int} (s : Sub F H) (h : Vw K F H v (.scr ns)) : ∃ p, v = .ref p ∧ SqL K H p (ns.map V.int) := by
  cases h with
  | rep r => cases r with | scr e => exact ⟨_, rfl, Same.seq s e⟩
theorem Vw.dKE {K : PySem.W.Frag} {F H : Hp} (s : Sub F H) {v : V} {ds : List (Key × D)} (h : Vw K F H v (.dK ds)) : ∃ p kvs, v = .ref p ∧ Rd H p (.dK kvs) ∧ kvs.map Prod.fst = ds.map Prod.fst ∧ Reps K F (kvs.map Prod.snd) (ds.map Prod.snd) := by
  cases h with
  | rep r => cases r with | dK e k r => exact ⟨_, _, rfl, .inr ⟨_, s _ _ e⟩, k, r⟩
  | dK e k r => exact ⟨_, _, rfl, .inl e, k, r⟩
theorem Vw.dTE {K : PySem.W.Frag} {F H : Hp} (s : Sub F H) {v : V} {ds : List (List Key × D)} (h : Vw K F H v (.dT ds)) : ∃ p kvs, v = .ref p ∧ Rd H p (.dT kvs) ∧ kvs.map Prod.fst = ds.map Prod.fst ∧ Reps K F (kvs.map Prod.snd) (ds.map Prod.snd) := by
  cases h with
  | rep r => cases r with | dT e k r => exact ⟨_, _, rfl, .inr ⟨_, s _ _ e⟩, k, r⟩
  | dT e k r => exact ⟨_, _, rfl, .inl e, k, r⟩
/-- an operand is viewed -/
theorem OpdOk.vw {b : Bd} {F H : Hp} {ρ : DEnv} {σ : St} {fp : List Addr} {v : V} {o : Opd} {d : D} (h : OpdOk b F σ v o) (r : Rel b.K b.ks F H ρ σ fp) (e : o.get ρ = some d) : Vw b.K F H v d := by
  cases o with
  | v x => cases e; exact .rep h
  | s i =>
    obtain ⟨e1, e2⟩ := h
    have e3 : ρ[i]? = some (some d) := by
      have q : (ρ[i]?).bind id = some d := e
      cases z : ρ[i]? with
      | none => rw [z] at q; cases q
      | some y => rw [z] at q; have q' : y = some d := q; rw [q']
    rcases e2 with e2 | e2
    · obtain ⟨w, f, g, s1, o1, _, _⟩ := r.sl.split e2 e3
      rw [e1] at s1; cases s1
      cases o1 with
      | lst a c q => obtain ⟨q1, _⟩ := q.leafE; exact .lst c q1
    · obtain ⟨w, f, g, s1, o1, _, _⟩ := r.sl.split e2 e3
      rw [e1] at s1; cases s1
      cases o1 with
      | dK a c k q => obtain ⟨q1, _⟩ := q.leafE; exact .dK c k q1
      | dT a c k q => obtain ⟨q1, _⟩ := q.leafE; exact .dT c k q1

/-! ### operations by values: only new cells are laid -/
structure Alc (F H F' H' : Hp) : Prop where
  sub : Sub F' H'
  keep : ∀ a o, H a = some o → H' a = some o ∧ F' a = F a
def OkV (K : PySem.W.Frag) (sh : Sh) (F H : Hp) (Q : VK) (z : D) : Prop :=
  ∀ v F' H' fv, Alc F H F' H' → (∀ a ∈ fv, H a = none) → fv.Nodup → OR K F' H' sh v z fv → Q v H'
section
variable {K : PySem.W.Frag} {sh : Sh} {F H : Hp} {Q : VK} {z : D}
theorem Alc.refl (s : Sub F H) : Alc F H F H := ⟨s, fun _ _ e => ⟨e, rfl⟩⟩
theorem Alc.same {F' H' : Hp} (a : Alc F H F' H') (s : Sub F H) : Same F F' := fun x o e => by rw [(a.keep x o (s _ _ e)).2]; exact e
theorem OkV.here (s : Sub F H) (h : OkV K .leaf F H Q z) {v : V} (r : Rep K F v z) : Q v H := h v F H [] (.refl s) (fun _ m => by simp at m) List.nodup_nil (.leaf r)
theorem sub_upd {p : Addr} {o : HO} (s : Sub F H) : Sub (upd F p o) (upd H p o) := by
  refine ⟨fun a x e => ?_, fun a x e => ?_⟩
  · by_cases m : a = p
    · subst m; rw [upd_same] at e ⊢; exact e
    · rw [upd_ne m] at e ⊢; exact s _ _ e
  · by_cases m : a = p
    · subst m; rw [upd_same] at e ⊢; exact e
    · rw [upd_ne m] at e ⊢; exact s.tp _ _ e
theorem sub_updH {p : Addr} {o : HO} (s : Sub F H) (n : F p = none) (nt : ∀ xs, o ≠ .tup xs) : Sub F (upd H p o) := by
  refine ⟨fun a x e => ?_, fun a x e => ?_⟩
  · have m : a ≠ p := fun z => by rw [z, n] at e; cases e
    rw [upd_ne m]; exact s _ _ e
  · by_cases m : a = p
    · subst m; rw [upd_same] at e; exact absurd (Option.some.inj e) (nt _)
    · rw [upd_ne m] at e; exact s.tp _ _ e
theorem sub_none {p : Addr} (s : Sub F H) (n : H p = none) : F p = none := by
  cases e : F p with
  | none => rfl
  | some y => have q := s _ _ e; rw [n] at q; cases q
theorem upd_alc {p : Addr} {o : HO} (s : Sub F H) (n : H p = none) : Alc F H (upd F p o) (upd H p o) := by
  have nF : F p = none := by
    cases e : F p with
    | none => rfl
    | some y => have q := s _ _ e; rw [n] at q; cases q
  refine ⟨sub_upd s, fun a x e => ?_⟩
  · have m : a ≠ p := fun z => by rw [z, n] at e; cases e
    rw [upd_ne m, upd_ne m]; exact ⟨e, rfl⟩
theorem upd_alcH {p : Addr} {o : HO} (s : Sub F H) (n : H p = none) (nt : ∀ xs, o ≠ .tup xs := by intro _ z; cases z) : Alc F H F (upd H p o) := by
  refine ⟨sub_updH s (sub_none s n) nt, fun a x e => ?_⟩
  · have m : a ≠ p := fun z => by rw [z, n] at e; cases e
    rw [upd_ne m]; exact ⟨e, rfl⟩
/-- a new tuple, frozen -/
theorem OkV.newT (s : Sub F H) {ds : List D} {vs : List V} (h : OkV K .leaf F H Q (.tup ds)) (r : Reps K F vs ds) {p : Addr} {us : List Value} (n : H p = none) : Q (.ref p) (upd H p (tupC us vs)) := by
  have a := upd_alc (o := tupC us vs) s n
  exact h _ _ _ [] a (fun _ m => by simp at m) List.nodup_nil (.leaf (.tup ⟨us, upd_same⟩ (r.mono (a.same s))))
theorem OkV.newLf (s : Sub F H) {ds : List D} {vs : List V} (h : OkV K .leaf F H Q (.lst ds)) (r : Reps K F vs ds) {p : Addr} (n : H p = none) : Q (.ref p) (upd H p (.lst vs)) := by
  have a := upd_alc (o := .lst vs) s n
  exact h _ _ _ [] a (fun _ m => by simp at m) List.nodup_nil (.leaf (.lst upd_same (r.mono (a.same s))))
/-- a new list, owned -/
theorem OkV.newL (s : Sub F H) {ds : List D} {vs : List V} (h : OkV K (.lst .leaf) F H Q (.lst ds)) (r : Reps K F vs ds) {p : Addr} (n : H p = none) : Q (.ref p) (upd H p (.lst vs)) := by
  have a := upd_alcH (o := .lst vs) s n
  have nF : F p = none := by
    cases e : F p with
    | none => rfl
    | some y => have q := s _ _ e; rw [n] at q; cases q
  exact h _ _ _ [p] a (fun x m => by simp at m; subst m; exact n) (by simp) (.lst nF upd_same (ORs.ofReps r))
end
/-- the state behind an operation -/
theorem Alc.rel {K : PySem.W.Frag} {ks : List Sh} {ρ : DEnv} {σ : St} {F H F' H' : Hp} {fp fv : List Addr} (r : Rel K ks F H ρ σ fp) (a : Alc F H F' H') (n : ∀ x ∈ fv, H x = none) (nd : fv.Nodup) :
    Rel K ks F' H' ρ σ fp ∧ (fp ++ fv).Nodup ∧ Ext F H fp F' H' (fp ++ fv) := by
  refine ⟨⟨a.sub, r.nd, r.sl.frame (a.same r.sub) fun x m => ?_⟩, ?_, ⟨fun x o e _ => a.keep x o e, fun x m => ?_⟩⟩
  · obtain ⟨h1, o, h2⟩ := r.sl.own x m
    obtain ⟨k1, k2⟩ := a.keep x o h2
    exact ⟨k2.trans h1, k1.trans h2.symm⟩
  · refine List.nodup_append.mpr ⟨r.nd, nd, fun x m y m' z => ?_⟩
    subst z
    obtain ⟨_, o, h2⟩ := r.sl.own x m
    rw [n x m'] at h2; cases h2
  · rcases List.mem_append.mp m with m | m
    · exact .inl m
    · exact .inr (n x m)
theorem OkE.done {b : Bd} {sh : Sh} {F H : Hp} {fp : List Addr} {σ : St} {Q : VK} {z : D} {ρ : DEnv} (h : OkE b sh F H fp σ Q (.ok z ρ)) (r : Rel b.K b.ks F H ρ σ fp) : OkV b.K sh F H Q z := fun v F' H' fv a n nd o => by
  obtain ⟨r', nd', x'⟩ := a.rel r n nd
  exact h v F' H' fp fv r' nd' x' o
/-- one, two operands; a list of operands -/
def Op1 (K : PySem.W.Frag) (sh : Sh) (r : V → Hp → VK → Prop) (f : D → Option D) : Prop := ∀ F H x d z Q, Sub F H → Vw K F H x d → f d = some z → OkV K sh F H Q z → r x H Q
def Op2 (K : PySem.W.Frag) (sh : Sh) (r : R2) (f : D → D → Option D) : Prop := ∀ F H x y d e z Q, Sub F H → Vw K F H x d → Vw K F H y e → f d e = some z → OkV K sh F H Q z → r x y H Q
def OpN (K : PySem.W.Frag) (sh : Sh) (r : List V → Hp → VK → Prop) (f : List D → Option D) : Prop := ∀ F H xs ds z Q, Sub F H → Paired (fun d x => Vw K F H x d) ds xs → f ds = some z → OkV K sh F H Q z → r xs H Q
def mOp1 (f : D → Option D) (a : MO) : ME := fun ρ => (a ρ).bind fun x ρ1 => R.of ((x.get ρ1).bind f) ρ1
def mOp2 (f : D → D → Option D) (a b : MO) : ME := fun ρ => (a ρ).bind fun x ρ1 => (b ρ1).bind fun y ρ2 => R.of ((x.get ρ2).bind fun d => (y.get ρ2).bind fun e => f d e) ρ2
def getAll : List Opd → DEnv → Option (List D)
  | [], _ => some []
  | o :: os, ρ => (o.get ρ).bind fun d => (getAll os ρ).bind fun ds => some (d :: ds)
def mOpN (f : List D → Option D) (a : DEnv → R (List Opd)) : ME := fun ρ => (a ρ).bind fun xs ρ1 => R.of ((getAll xs ρ1).bind f) ρ1
section
variable {b : Bd} {sh : Sh} {ta tb : TE}
theorem snd_op1 {r : V → Hp → VK → Prop} {f : D → Option D} {a : MO} (ho : Op1 b.K sh r f) (ha : SndO b ta a) : SndE b sh (tUn r ta) (mOp1 f a) := by
  intro ρ σ F H fp Q r0 hok
  refine ha.go r0 (Ok := OkE b sh F H fp σ Q) hok (fun z => z) (fun _ _ z => z) fun x ρ1 v F1 H1 fp1 h1 r1 x1 o1 => ?_
  cases e1 : x.get ρ1 with
  | none => rw [e1] at h1; exact (show False from h1).elim
  | some d =>
    rw [e1] at h1
    cases e2 : f d with
    | none => rw [Option.bind_some, e2] at h1; exact (show False from h1).elim
    | some z =>
      rw [Option.bind_some, e2] at h1
      exact ho F1 H1 v d z Q r1.sub (o1.vw r1 e1) e2 ((h1.ext x1).done r1)
theorem snd_op2 {r : R2} {f : D → D → Option D} {a c : MO} (ho : Op2 b.K sh r f) (ha : SndO b ta a) (hc : SndO b tb c) : SndE b sh (tOp r ta tb) (mOp2 f a c) := by
  intro ρ σ F H fp Q r0 hok
  refine ha.go r0 (Ok := OkE b sh F H fp σ Q) hok (fun z => z) (fun _ _ z => z) fun x ρ1 v F1 H1 fp1 h1 r1 x1 o1 => ?_
  refine hc.go r1 (Ok := OkE b sh F1 H1 fp1 σ Q) (h1.ext x1) (fun z => z) (fun _ _ z => z) fun y ρ2 u F2 H2 fp2 h2 r2 x2 o2 => ?_
  have o1' := o1.mono (r1.same x2)
  cases e1 : x.get ρ2 with
  | none => rw [e1] at h2; exact (show False from h2).elim
  | some d =>
    cases e2 : y.get ρ2 with
    | none => rw [e1, e2] at h2; exact (show False from h2).elim
    | some e =>
      cases e3 : f d e with
      | none => rw [e1, e2, Option.bind_some, Option.bind_some, e3] at h2; exact (show False from h2).elim
      | some z =>
        rw [e1, e2, Option.bind_some, Option.bind_some, e3] at h2
        exact ho F2 H2 v u d e z Q r2.sub (o1'.vw r2 e1) (o2.vw r2 e2) e3 ((h2.ext x2).done r2)
theorem getAll_vw {F H : Hp} {ρ : DEnv} {σ : St} {fp : List Addr} (r : Rel b.K b.ks F H ρ σ fp) : ∀ {os : List Opd} {vs : List V} {ds : List D}, Paired (fun o v => OpdOk b F σ v o) os vs → getAll os ρ = some ds → Paired (fun d x => Vw b.K F H x d) ds vs
  | _, _, _, .nil, e => by cases e; exact .nil
  | o :: os, _, ds, .cons h t, e => by
    have e' : ((o.get ρ).bind fun d => (getAll os ρ).bind fun ds => some (d :: ds)) = some ds := e
    cases e1 : o.get ρ with
    | none => rw [e1] at e'; cases e'
    | some d =>
      cases e2 : getAll os ρ with
      | none => rw [e1, e2] at e'; cases e'
      | some es =>
        rw [e1, e2] at e'
        have e3 : d :: es = ds := Option.some.inj e'
        subst e3
        exact .cons (h.vw r e1) (getAll_vw r t e2)
theorem snd_opN {r : List V → Hp → VK → Prop} {f : List D → Option D} {t : TA} {a : DEnv → R (List Opd)} (ho : OpN b.K sh r f) (ha : SndOs b t a) : SndE b sh (tCB r t) (mOpN f a) := by
  intro ρ σ F H fp Q r0 hok
  refine ha.go r0 (Ok := OkE b sh F H fp σ Q) hok (fun z => z) (fun _ _ z => z) fun xs ρ1 vs F1 H1 fp1 h1 r1 x1 o1 => ?_
  cases e1 : getAll xs ρ1 with
  | none => rw [e1] at h1; exact (show False from h1).elim
  | some ds =>
    rw [e1] at h1
    cases e2 : f ds with
    | none => rw [Option.bind_some, e2] at h1; exact (show False from h1).elim
    | some z =>
      rw [Option.bind_some, e2] at h1
      exact ho F1 H1 vs ds z Q r1.sub (getAll_vw r1 o1 e1) e2 ((h1.ext x1).done r1)
end
end VL
/-! V3: expressions. -/
namespace VL
open PySem PySem.Spec L2

abbrev bd (X : Cx) (ks : List Sh) (W : WX) : Bd := ⟨X.K, X.mg, ks, W⟩
structure EV (X : Cx) (ks : List Sh) (W : WX) (e : Expr) (sh : Sh) (t : TE) (m : ME) : Prop where
  pe : PE X e t
  sd : SndE (bd X ks W) sh t m
structure EO (X : Cx) (ks : List Sh) (W : WX) (e : Expr) (t : TE) (m : MO) : Prop where
  pe : PE X e t
  sd : SndO (bd X ks W) t m
structure ET (X : Cx) (ks : List Sh) (W : WX) (e : Expr) (t : TT) (m : MT) : Prop where
  pe : PT X e t
  sd : SndT (bd X ks W) t m
structure EA (X : Cx) (ks : List Sh) (W : WX) (es : List Expr) (t : TA) (m : MA) : Prop where
  pe : PA X es t
  sd : SndA (bd X ks W) t m
structure EOs (X : Cx) (ks : List Sh) (W : WX) (es : List Expr) (t : TA) (m : DEnv → R (List Opd)) : Prop where
  pe : PA X es t
  sd : SndOs (bd X ks W) t m

section
variable {X : Cx} {ks : List Sh} {W : WX} {e a c : Expr} {es : List Expr} {t ta tc : TE} {m : ME} {pos : Pos} {sh : Sh}

/-! ### names, constants -/
def mVar (i : Nat) : ME := fun ρ => R.of ((ρ[i]?).bind id) ρ
def mC (d : D) : ME := fun ρ => .ok d ρ
theorem getE {ρ : DEnv} {i : Nat} {d : D} (h : (ρ[i]?).bind id = some d) : ρ[i]? = some (some d) := by
  cases z : ρ[i]? with
  | none => rw [z] at h; cases h
  | some y => rw [z] at h; have q' : y = some d := h; rw [q']
theorem snd_var {b : Bd} {i : Nat} (hk : b.ks[i]? = some .leaf) : SndE b .leaf (tVar i) (mVar i) := by
  intro ρ σ F H fp Q r h
  unfold mVar at h
  cases e : (ρ[i]?).bind id with
  | none => rw [e] at h; exact (show False from h).elim
  | some d =>
    rw [e] at h
    obtain ⟨v, f, g, s1, o1, _, _⟩ := r.sl.split hk (getE e)
    obtain ⟨q, _⟩ := o1.leafE
    exact ⟨v, s1, h v F H fp [] r (by rw [List.append_nil]; exact r.nd) (by rw [List.append_nil]; exact .refl) (.leaf q)⟩
theorem ev_var (i : Nat) {x : Str} (hk : ks[i]? = some .leaf := by rfl) (hN : X.N[i]? = some x := by rfl) (hv : Vis X.env.scope x := by first | exact Or.inl rfl | exact Or.inr (Or.inl rfl) | exact Or.inr (Or.inr rfl)) (hd : (x == ("__debug__" : Str)) = false := by decide)
    (hcd : (x == ("__classdict__" : Str)) = false := by decide) : EV X ks W (.Name x pos) .leaf (tVar i) (mVar i) := ⟨pe_var hN hv hd hcd, snd_var hk⟩
/-- an owned slot as an operand -/
theorem eo_own (i : Nat) {x : Str} (hk : ks[i]? = some (.lst .leaf) ∨ ks[i]? = some (.dic .leaf) := by first | exact Or.inl rfl | exact Or.inr rfl) (hN : X.N[i]? = some x := by rfl) (hv : Vis X.env.scope x := by first | exact Or.inl rfl | exact Or.inr (Or.inl rfl) | exact Or.inr (Or.inr rfl)) (hd : (x == ("__debug__" : Str)) = false := by decide)
    (hcd : (x == ("__classdict__" : Str)) = false := by decide) : EO X ks W (.Name x pos) (fun σ H Q => ∃ v, σ[i]? = some (some v) ∧ Q v H) (fun ρ => (R.of ((ρ[i]?).bind id) ρ).bind fun _ ρ1 => .ok (.s i) ρ1) := by
  refine ⟨pe_var hN hv hd hcd, fun ρ σ F H fp Q r h => ?_⟩
  cases e : (ρ[i]?).bind id with
  | none => rw [e] at h; exact (show False from h).elim
  | some d =>
    rw [e] at h
    rcases hk with hk | hk
    · obtain ⟨v, f, g, s1, o1, _, _⟩ := r.sl.split hk (getE e)
      exact ⟨v, s1, h v F H fp r .refl ⟨s1, .inl hk⟩⟩
    · obtain ⟨v, f, g, s1, o1, _, _⟩ := r.sl.split hk (getE e)
      exact ⟨v, s1, h v F H fp r .refl ⟨s1, .inr hk⟩⟩
theorem eo_of (h : EV X ks W e .leaf t m) : EO X ks W e t (fun ρ => (m ρ).bind fun d ρ1 => .ok (.v d) ρ1) := by
  refine ⟨h.pe, fun ρ σ F H fp Q r hok => ?_⟩
  refine h.sd.go r (Ok := OkO (bd X ks W) F H fp σ Q) hok (fun z => z) (fun _ _ z => z) fun d ρ1 v F1 H1 fp1 h1 r1 x1 p1 => ?_
  exact h1 v F1 H1 fp1 r1 x1 p1
theorem snd_c {b : Bd} {v : V} {d : D} (h : ∀ F, Rep b.K F v d) : SndE b .leaf (tC v) (mC d) := by
  intro ρ σ F H fp Q r hok
  exact hok v F H fp [] r (by rw [List.append_nil]; exact r.nd) (by rw [List.append_nil]; exact .refl) (.leaf (h F))
theorem ev_int {i : Int} {j} : EV X ks W (.Constant (.int i) j pos) .leaf (tC (.int i)) (mC (.int i)) := ⟨pe_int, snd_c fun _ => .int _⟩
theorem ev_bl {i : Bool} {j} : EV X ks W (.Constant (.bool i) j pos) .leaf (tC (.bl i)) (mC (.bl i)) := ⟨pe_bl, snd_c fun _ => .bl _⟩
theorem ev_str {x : Str} {j} (h : asc x = true := by decide +kernel) : EV X ks W (.Constant (.str x) j pos) .leaf (tC (.str x)) (mC (.str x)) := ⟨pe_str, snd_c fun _ => .str _ h⟩
/-- cells locked -/
def Lk (l : List Addr) (H H2 : Hp) : Prop := (∀ a, a ∉ l → H2 a = H a) ∧ ∀ a ∈ l, ∃ o u, H a = some u ∧ H2 a = some (.frz o u)
theorem Inv.lockAll {pins : List (Addr × Obj)} {σ : St} {H : Hp} {s : Shared} (I : Inv X pins σ H s) : ∀ l : List Addr, l.Nodup → (∀ a ∈ l, ∃ u, H a = some u ∧ Mut (some u)) → ∃ H2, Lk l H H2 ∧ Inv X pins σ H2 s
  | [], _, _ => ⟨H, ⟨fun _ _ => rfl, fun _ m => by simp at m⟩, I⟩
  | a :: l, nd, h => by
    have nd' := List.nodup_cons.mp nd
    obtain ⟨H2, ⟨k1, k2⟩, I2⟩ := Inv.lockAll I l nd'.2 fun b m => h b (List.mem_cons_of_mem _ m)
    obtain ⟨u, e, mu⟩ := h a List.mem_cons_self
    have e2 : H2 a = some u := (k1 a nd'.1).trans e
    obtain ⟨od, I3⟩ := I2.lock e2 mu
    refine ⟨_, ⟨fun b nb => ?_, fun b m => ?_⟩, I3⟩
    · rw [List.mem_cons, not_or] at nb
      rw [upd_ne nb.1]; exact k1 b nb.2
    · by_cases q : b = a
      · subst q; exact ⟨od, u, e, upd_same⟩
      · rw [upd_ne q]
        rcases List.mem_cons.mp m with m | m
        · exact (q m).elim
        · exact k2 b m
def tFrz (t : TE) : TE := fun σ H Q => t σ H fun v H1 => ∃ l : List Addr, l.Nodup ∧ (∀ a ∈ l, ∃ u, H1 a = some u ∧ Mut (some u)) ∧ ∀ H2, Lk l H1 H2 → Q v H2
theorem pe_frz (h : PE X e t) : PE X e (tFrz t) := by
  refine ⟨fun pins s σ H Q I hw => ?_⟩
  refine thn (h.run pins s σ _ _ I hw) fun v s1 ⟨x, H1, I2, r, l, nd, mu, q⟩ => ?_
  obtain ⟨H2, lk, I3⟩ := Inv.lockAll I2 l nd mu
  exact ⟨x, H2, I3, r, q H2 lk⟩
def isDc : Option HO → Bool
  | some (.dK _) => true
  | some (.dT _) => true
  | _ => false
/-- a fresh owned thing, frozen -/
theorem ev_frz (h : EV X ks W e sh t m) : EV X ks W e .leaf (tFrz t) m := by
  refine ⟨pe_frz h.pe, fun ρ σ F H fp Q r hok => h.sd ρ σ F H fp _ r ?_⟩
  cases em : m ρ with
  | no => rw [em] at hok; exact hok
  | ex x ρ1 => rw [em] at hok; exact hok
  | ok d ρ1 =>
    rw [em] at hok
    intro v F' H' fp' fv r' nd x o
    have nd' := List.nodup_append.mp nd
    have fN : ∀ y ∈ fv, F' y = none := fun y m => (o.own y m).1
    refine ⟨fv.filter fun a => isDc (H' a), nd'.2.1.filter _, fun a ma => ?_, fun H2 lk => ?_⟩
    · have q := (List.mem_filter.mp ma).2
      cases eu : H' a with
      | none => rw [eu] at q; cases q
      | some u => rw [eu] at q; cases u <;> first | (cases q; done) | exact ⟨_, rfl, trivial⟩
    · have out : ∀ a, a ∉ fv → H2 a = H' a := fun a n => lk.1 a fun z => n (List.mem_filter.mp z).1
      have fz : ∀ a ∈ fv, Frzd (H' a) (H2 a) := fun a ma => by
        by_cases q : isDc (H' a) = true
        · obtain ⟨od, u, e1, e2⟩ := lk.2 a (List.mem_filter.mpr ⟨ma, q⟩)
          rw [e1] at q ⊢
          rw [e2]
          refine ⟨fun xs z => ?_, fun xs z => ?_, fun xs z => ?_⟩
          · cases z; cases q
          · cases z; exact ⟨_, rfl⟩
          · cases z; exact ⟨_, rfl⟩
        · rw [lk.1 a fun z => q (List.mem_filter.mp z).2]
          refine ⟨fun xs z => z, fun xs z => ?_, fun xs z => ?_⟩
          · rw [z] at q; exact absurd rfl q
          · rw [z] at q; exact absurd rfl q
      have sm : Same F' (frz F' H2 fv) := frz_same fN
      have sH : Same F' H2 := fun a u z => by
        rw [out a fun m => by rw [fN a m] at z; cases z]; exact r'.sub a u z
      have tp : ∀ a xs, H2 a = some (.tup xs) → frz F' H2 fv a = some (.tup xs) := fun a xs z => by
        by_cases ma : a ∈ fv
        · rw [frz_in ma]; exact z
        · rw [frz_out ma]; rw [out a ma] at z; exact r'.sub.tp a xs z
      refine hok v (frz F' H2 fv) H2 fp' [] ⟨⟨frz_sub sH, tp⟩, r'.nd, r'.sl.frame sm fun y m => ⟨?_, out y fun z => nd'.2.2 y m y z rfl⟩⟩ (by rw [List.append_nil]; exact r'.nd) ?_ (.leaf (o.frozen sm fun y m => by rw [frz_in m]; exact fz y m))
      · rw [frz_out fun z => nd'.2.2 y m y z rfl]
        exact (r'.sl.own y m).1
      · rw [List.append_nil]
        refine ⟨fun y ob e n => ?_, fun y m => x.fr y (List.mem_append_left _ m)⟩
        obtain ⟨k1, k2⟩ := x.keep y ob e n
        have ny : y ∉ fv := fun z => by
          rcases x.fr y (List.mem_append_right _ z) with q | q
          · exact n q
          · rw [q] at e; cases e
        refine ⟨(out y ny).trans k1, ?_⟩
        rw [frz_out ny]
        exact k2

/-- .. a list: nothing to lock -/
theorem ev_frzL (h : EV X ks W e (.lst .leaf) t m) : EV X ks W e .leaf t m := by
  refine ⟨h.pe, fun ρ σ F H fp Q r hok => h.sd ρ σ F H fp Q r ?_⟩
  cases em : m ρ with
  | no => rw [em] at hok; exact hok
  | ex x ρ1 => rw [em] at hok; exact hok
  | ok d ρ1 =>
    rw [em] at hok
    intro v F' H' fp' fv r' nd x o
    have nd' := List.nodup_append.mp nd
    have fN : ∀ y ∈ fv, F' y = none := fun y m => (o.own y m).1
    have sm : Same F' (frz F' H' fv) := frz_same fN
    have tp : ∀ a xs, H' a = some (.tup xs) → frz F' H' fv a = some (.tup xs) := fun a xs z => by
      by_cases ma : a ∈ fv
      · rw [frz_in ma]; exact z
      · rw [frz_out ma]; exact r'.sub.tp a xs z
    have fz : ∀ a ∈ fv, Frzd (H' a) (frz F' H' fv a) := fun a ma => by
      rw [frz_in ma]
      cases o with
      | lst q1 q2 q3 =>
        obtain ⟨_, rfl⟩ := q3.leafE
        cases List.mem_singleton.mp ma
        rw [q2]
        exact ⟨(fun xs z => z), (fun _ z => nomatch z), (fun _ z => nomatch z)⟩
    refine hok v (frz F' H' fv) H' fp' [] ⟨⟨frz_sub r'.sub.sm, tp⟩, r'.nd, r'.sl.frame sm fun y m => ⟨?_, rfl⟩⟩ (by rw [List.append_nil]; exact r'.nd) ?_ (.leaf (o.frozen sm fz))
    · rw [frz_out fun z => nd'.2.2 y m y z rfl]
      exact (r'.sl.own y m).1
    · rw [List.append_nil]
      refine ⟨fun y ob e n => ?_, fun y m => x.fr y (List.mem_append_left _ m)⟩
      obtain ⟨k1, k2⟩ := x.keep y ob e n
      refine ⟨k1, ?_⟩
      rw [frz_out fun z => ?_]
      · exact k2
      · rcases x.fr y (List.mem_append_right _ z) with q | q
        · exact n q
        · rw [q] at e; cases e

/-! ### argument lists -/
def mNil : MA := fun ρ => .ok [] ρ
def mCons (a : ME) (r : MA) : MA := fun ρ => (a ρ).bind fun d ρ1 => (r ρ1).bind fun ds ρ2 => .ok (d :: ds) ρ2
theorem ea_nil : EA X ks W [] tNil mNil := ⟨pa_nil, fun ρ σ F H fp Q r hok => hok [] F H fp r .refl .nil⟩
theorem ea_cons {tr : TA} {mr : MA} (ha : EV X ks W e .leaf t m) (hr : EA X ks W es tr mr) (hs : starEach (e :: es) X.env = (false, eval e X.env) :: starEach es X.env := by rfl) : EA X ks W (e :: es) (tCons t tr) (mCons m mr) := by
  refine ⟨pa_cons ha.pe hr.pe hs, fun ρ σ F H fp Q r hok => ?_⟩
  refine ha.sd.go r (Ok := OkA (bd X ks W) F H fp σ Q) hok (fun z => z) (fun _ _ z => z) fun d ρ1 v F1 H1 fp1 h1 r1 x1 p1 => ?_
  refine hr.sd.go r1 (Ok := OkA (bd X ks W) F1 H1 fp1 σ Q) (h1.ext x1) (fun z => z) (fun _ _ z => z) fun ds ρ2 vs F2 H2 fp2 h2 r2 x2 p2 => ?_
  exact h2 (v :: vs) F2 H2 fp2 r2 x2 (.cons (p1.mono (r1.same x2)) p2)
def mONil : DEnv → R (List Opd) := fun ρ => .ok [] ρ
def mOCons (a : MO) (r : DEnv → R (List Opd)) : DEnv → R (List Opd) := fun ρ => (a ρ).bind fun d ρ1 => (r ρ1).bind fun ds ρ2 => .ok (d :: ds) ρ2
theorem eos_nil : EOs X ks W [] tNil mONil := ⟨pa_nil, fun ρ σ F H fp Q r hok => hok [] F H fp r .refl .nil⟩
theorem eos_cons {tr : TA} {mo : MO} {mr : DEnv → R (List Opd)} (ha : EO X ks W e t mo) (hr : EOs X ks W es tr mr) (hs : starEach (e :: es) X.env = (false, eval e X.env) :: starEach es X.env := by rfl) : EOs X ks W (e :: es) (tCons t tr) (mOCons mo mr) := by
  refine ⟨pa_cons ha.pe hr.pe hs, fun ρ σ F H fp Q r hok => ?_⟩
  refine ha.sd.go r (Ok := OkOs (bd X ks W) F H fp σ Q) hok (fun z => z) (fun _ _ z => z) fun d ρ1 v F1 H1 fp1 h1 r1 x1 p1 => ?_
  refine hr.sd.go r1 (Ok := OkOs (bd X ks W) F1 H1 fp1 σ Q) (h1.ext x1) (fun z => z) (fun _ _ z => z) fun ds ρ2 vs F2 H2 fp2 h2 r2 x2 p2 => ?_
  exact h2 (v :: vs) F2 H2 fp2 r2 x2 (.cons (p1.mono (r1.same x2)) p2)

/-! ### displays -/
def mTup (a : MA) : ME := fun ρ => (a ρ).bind fun ds ρ1 => if ds.length ≤ 16777216 then .ok (.tup ds) ρ1 else .no
def mLst (a : MA) : ME := fun ρ => (a ρ).bind fun ds ρ1 => if ds.length ≤ 16777216 then .ok (.lst ds) ρ1 else .no
theorem line_ok {n : Nat} (h : n ≤ 16777216) : n ≤ sizeLine := by rw [sizeLine_eq]; exact h
theorem ev_lst {t : TA} {a : MA} (h : EA X ks W es t a) : EV X ks W (.List es pos) (.lst .leaf) (tLst t) (mLst a) := by
  refine ⟨pe_lst h.pe, fun ρ σ F H fp Q r hok => ?_⟩
  refine h.sd.go r (Ok := OkE (bd X ks W) (.lst .leaf) F H fp σ Q) hok (fun z => z) (fun _ _ z => z) fun ds ρ1 vs F1 H1 fp1 h1 r1 x1 p1 => ?_
  by_cases hl : ds.length ≤ 16777216
  · rw [if_pos hl] at h1
    exact ⟨by rw [p1.length]; exact line_ok hl, fun p np => ((h1.ext x1).done r1).newL r1.sub p1 np⟩
  · rw [if_neg hl] at h1; exact (show False from h1).elim

/-! ### operators, comparisons, built-ins by rules -/
theorem ev_op {op : Operator} {r : R2} {f : D → D → Option D} {mo mp : MO} (ho : OpR X (binaryOp op) r) (hs : Op2 X.K sh r f) (ha : EO X ks W a ta mo) (hc : EO X ks W c tc mp) : EV X ks W (.BinOp a op c pos) sh (tOp r ta tc) (mOp2 f mo mp) :=
  ⟨pe_op ho ha.pe hc.pe, snd_op2 (b := bd X ks W) hs ha.sd hc.sd⟩
theorem ev_un {op : UnaryOp} {r : V → Hp → VK → Prop} {f : D → Option D} {mo : MO} (ho : UnR X (unaryOp op) r) (hs : Op1 X.K sh r f) (ha : EO X ks W a ta mo) : EV X ks W (.UnaryOp op a pos) sh (tUn r ta) (mOp1 f mo) :=
  ⟨pe_un ho ha.pe, snd_op1 (b := bd X ks W) hs ha.sd⟩
theorem ev_cmp {op : CmpOp} {r : R2} {f : D → D → Option D} {mo mp : MO} (ho : OpR X (compareOp op) r) (hs : Op2 X.K sh r f) (ha : EO X ks W a ta mo) (hc : EO X ks W c tc mp) (hm : behindInMarks op c = false) : EV X ks W (.Compare a [op] [c] pos) sh (tOp r ta tc) (mOp2 f mo mp) :=
  ⟨pe_cmpR ho ha.pe hc.pe hm, snd_op2 (b := bd X ks W) hs ha.sd hc.sd⟩
theorem ev_ix {r : R2} {f : D → D → Option D} {mo mp : MO} (ho : IxR X r) (hs : Op2 X.K sh r f) (ha : EO X ks W a ta mo) (hc : EO X ks W c tc mp) (hx : PlainIx c := by exact fun _ _ => rfl) : EV X ks W (.Subscript a c pos) sh (tOp r ta tc) (mOp2 f mo mp) :=
  ⟨pe_ix ho ha.pe hc.pe hx, snd_op2 (b := bd X ks W) hs ha.sd hc.sd⟩
theorem ev_callB {x : Str} {p : Pos} {id : String} {r : List V → Hp → VK → Prop} {f : List D → Option D} {t : TA} {mo : DEnv → R (List Opd)} (ho : CallR X (.builtin id) r) (hs : OpN X.K sh r f) (ha : EOs X ks W (e :: es) t mo) (hm : X.mg x = none) (hv : bootBuiltins x = some (.builtin id))
    (hg : Gl X x := by rfl) (hn : x ≠ "__name__" := by decide) (hdb : (x == ("__debug__" : Str)) = false := by decide)
    (he : starEach (e :: es) X.env = (false, eval e X.env) :: starEach es X.env := by rfl) (hpl : (backTo pos (starEach es X.env)).any (·.1) = false := by rfl) : EV X ks W (.Call (.Name x p) (e :: es) [] pos) sh (tCB r t) (mOpN f mo) :=
  ⟨pe_callB ho hg hm hv ha.pe hn hdb he hpl, snd_opN (b := bd X ks W) hs ha.sd⟩
theorem ev_callT {x : Str} {p : Pos} {id : String} {r : List V → Hp → VK → Prop} {f : List D → Option D} {t : TA} {mo : DEnv → R (List Opd)} (ho : CallR X (.type id) r) (hs : OpN X.K sh r f) (ha : EOs X ks W (e :: es) t mo) (hm : X.mg x = none) (hv : bootBuiltins x = some (.type id))
    (hg : Gl X x := by rfl) (hn : x ≠ "__name__" := by decide) (hdb : (x == ("__debug__" : Str)) = false := by decide)
    (he : starEach (e :: es) X.env = (false, eval e X.env) :: starEach es X.env := by rfl) (hpl : (backTo pos (starEach es X.env)).any (·.1) = false := by rfl) : EV X ks W (.Call (.Name x p) (e :: es) [] pos) sh (tCB r t) (mOpN f mo) :=
  ⟨pe_callTy ho hg hm hv ha.pe hn hdb he hpl, snd_opN (b := bd X ks W) hs ha.sd⟩
/-! ### tests -/
def asB : D → DEnv → R Bool
  | .bl c, ρ => .ok c ρ
  | _, _ => .no
def mTest (m : ME) : MT := fun ρ => (m ρ).bind asB
theorem asBE {α : Prop} {d : D} {ρ : DEnv} {Ok : R Bool → Prop} (hn : ¬ Ok .no) (h : Ok (asB d ρ)) (k : ∀ c, d = .bl c → Ok (.ok c ρ) → α) : α := by
  cases d with
  | bl c => exact k c rfl h
  | _ => exact (hn h).elim
theorem snd_test {b : Bd} (h : SndE b .leaf t m) : SndT b (tB t) (mTest m) := by
  intro ρ σ F H fp Q r hok
  refine h.go r (Ok := OkT b F H fp σ Q) hok (fun z => z) (fun _ _ z => z) fun d ρ1 v F1 H1 fp1 h1 r1 x1 p1 => ?_
  refine asBE (Ok := OkT b F H fp σ Q) (fun z => z) h1 fun k e h2 => ?_
  subst e
  cases p1
  exact ⟨k, rfl, h2 F1 H1 fp1 r1 x1⟩
theorem et_cmp {op : CmpOp} {r : R2} {f : D → D → Option D} {mo mp : MO} (ho : OpR X (compareOp op) r) (hs : Op2 X.K .leaf r f) (ha : EO X ks W a ta mo) (hc : EO X ks W c tc mp) (hm : behindInMarks op c = false) : ET X ks W (.Compare a [op] [c] pos) (tTest (tOp r ta tc)) (mTest (mOp2 f mo mp)) :=
  ⟨pt_cmpR ho ha.pe hc.pe hm, snd_test (snd_op2 (b := bd X ks W) hs ha.sd hc.sd)⟩
def mNot (m : MT) : MT := fun ρ => (m ρ).bind fun c ρ1 => .ok (!c) ρ1
def mAnd (m n : MT) : MT := fun ρ => (m ρ).bind fun c ρ1 => if c = true then n ρ1 else .ok false ρ1
def mOr (m n : MT) : MT := fun ρ => (m ρ).bind fun c ρ1 => if c = true then .ok true ρ1 else n ρ1
/-- .. as values -/
def mAndV (m n : ME) : ME := fun ρ => ((m ρ).bind asB).bind fun c ρ1 => if c = true then n ρ1 else .ok (.bl false) ρ1
def mOrV (m n : ME) : ME := fun ρ => ((m ρ).bind asB).bind fun c ρ1 => if c = true then .ok (.bl true) ρ1 else n ρ1
def mNotV (m : ME) : ME := fun ρ => ((m ρ).bind asB).bind fun c ρ1 => .ok (.bl (!c)) ρ1
theorem bind_assoc {α β γ : Type} (r : R α) (f : α → DEnv → R β) (g : β → DEnv → R γ) : (r.bind f).bind g = r.bind fun a ρ => (f a ρ).bind g := by
  cases r <;> rfl
theorem asBE2 {α : Prop} {β : Type} {d : D} {ρ : DEnv} {Ok : R β → Prop} {g : Bool → DEnv → R β} (hn : ¬ Ok .no) (h : Ok ((asB d ρ).bind g)) (k : ∀ c, d = .bl c → Ok (g c ρ) → α) : α := by
  cases d with
  | bl c => exact k c rfl h
  | _ => exact (hn h).elim
theorem ev_one {op} (h : EV X ks W a sh t m) : EV X ks W (.BoolOp op [a] pos) sh t m := ⟨pe_one h.pe, h.sd⟩
theorem ev_and {mc : ME} (h : EV X ks W a .leaf t m) (h2 : EV X ks W (.BoolOp .And (c :: es) pos) .leaf tc mc) : EV X ks W (.BoolOp .And (a :: c :: es) pos) .leaf (tAndV t tc) (mAndV m mc) := by
  refine ⟨pe_and h.pe h2.pe, fun ρ σ F H fp Q r hok => ?_⟩
  unfold mAndV at hok
  rw [bind_assoc] at hok
  refine h.sd.go r (Ok := OkE (bd X ks W) .leaf F H fp σ Q) hok (fun z => z) (fun _ _ z => z) fun d ρ1 v F1 H1 fp1 h1 r1 x1 p1 => ?_
  refine asBE2 (Ok := OkE (bd X ks W) .leaf F H fp σ Q) (fun z => z) h1 fun k e h3 => ?_
  subst e
  cases p1
  refine ⟨k, rfl, ?_⟩
  cases k with
  | true => rw [if_pos rfl] at h3 ⊢; exact h2.sd ρ1 σ F1 H1 fp1 Q r1 (h3.ext x1)
  | false => rw [if_neg Bool.false_ne_true] at h3 ⊢; exact ((h3.ext x1).done r1).here r1.sub (.bl _)
def mIf (c : MT) (a b : ME) : ME := fun ρ => (c ρ).bind fun k ρ1 => if k = true then a ρ1 else b ρ1
end
end VL
/-! V4: operations on data: + - * // % ** << >> &, == != < in, items, slices, len. -/
namespace VL
open PySem PySem.Spec L2

/-! ### texts below 128 -/
theorem ascE {x : Str} (h : asc x = true) : (∀ c ∈ x.cps.toList, c < 128) ∧ x.length ≤ 16777216 := by
  unfold asc at h
  rw [Bool.and_eq_true, decide_eq_true_eq, Array.all_eq_true'] at h
  exact ⟨fun c m => of_decide_eq_true (h.1 c (Array.mem_toList_iff.mp m)), h.2⟩
theorem asc_mk {x : Str} (h : ∀ c ∈ x.cps.toList, c < 128) (hl : x.length ≤ 16777216) : asc x = true := by
  unfold asc
  rw [Bool.and_eq_true, decide_eq_true_eq, Array.all_eq_true']
  exact ⟨fun c m => decide_eq_true (h c (Array.mem_toList_iff.mpr m)), hl⟩
theorem asc_line {x : Str} (h : asc x = true) : x.length ≤ sizeLine := line_ok (ascE h).2
theorem asc_cat {x y : Str} (h : asc x = true) (h' : asc y = true) (hl : x.length + y.length ≤ 16777216) : asc (x ++ y) = true := by
  have e : (x ++ y).cps.toList = x.cps.toList ++ y.cps.toList := TL.tl_append x y
  refine asc_mk (fun c m => ?_) ?_
  · rw [e] at m
    rcases List.mem_append.mp m with m | m
    · exact (ascE h).1 c m
    · exact (ascE h').1 c m
  · have : (x ++ y).length = x.length + y.length := by
      show (x ++ y).cps.size = x.cps.size + y.cps.size
      rw [← Array.length_toList, e, List.length_append, Array.length_toList, Array.length_toList]
    omega
theorem asc_sub {x : Str} {l : List Nat} (h : asc x = true) (hs : ∀ c ∈ l, c ∈ x.cps.toList) (hl : l.length ≤ x.length) : asc ⟨l.toArray⟩ = true := by
  refine asc_mk (fun c m => (ascE h).1 c (hs c (by simpa using m))) ?_
  show l.toArray.size ≤ _
  rw [List.size_toArray]
  exact Nat.le_trans hl (ascE h).2
theorem asc_one {x : Str} {c : Nat} (h : asc x = true) (m : c ∈ x.cps.toList) : asc ⟨#[c]⟩ = true := by
  refine asc_mk (fun d md => ?_) (by show 1 ≤ 16777216; decide)
  have : d = c := by simpa using md
  subst this
  exact (ascE h).1 d m

/-! ### data as the library reads it -/
def keyD : Key → D
  | .inl n => .int n
  | .inr z => .str z
def keyP : Key → PyData
  | .inl i => .int i
  | .inr x => .str x
mutual
def D.toPy : D → PyData
  | .non => .none | .bl b => .bool b | .int i => .int i | .str x => .str x
  | .tup xs => .tuple (toPyL xs) | .lst xs => .list (toPyL xs)
  | .dK _ => .dict [] | .dT _ => .dict [] | .ob _ _ => .dict [] | .fin _ _ => .dict [] | .exv _ _ => .dict []
  | .scr ns => .list (ns.map .int) | .rp p => .str p.shown | .ty _ => .dict []
  | .key ks => .tuple (ks.map keyP)
def toPyL : List D → List PyData
  | [] => []
  | d :: ds => d.toPy :: toPyL ds
end
mutual
def D.py : D → Bool
  | .non => true | .bl _ => true | .int _ => true | .str _ => true
  | .tup xs => pyL xs | .lst xs => pyL xs
  | .dK _ => false | .dT _ => false | .ob _ _ => false | .fin _ _ => false | .exv _ _ => false | .scr _ => true | .rp _ => false | .ty _ => false
  | .key _ => true
def pyL : List D → Bool
  | [] => true
  | d :: ds => d.py && pyL ds
end
theorem py_nod {d : D} (h : d.py = true) : d.nod = true := by
  cases d <;> first | rfl | (rw [D.py] at h; cases h)
theorem dp_ints {K : PySem.W.Frag} {H : Hp} : ∀ ns : List Int, DpAll K H (ns.map V.int) (ns.map PyData.int)
  | [] => .nil
  | n :: ns => .cons (.int n) (dp_ints ns)
theorem lay_ints : ∀ ns : List Int, PyData.canLayAll0 (ns.map PyData.int) = true
  | [] => by simp [PyData.canLayAll0]
  | n :: ns => by simp [PyData.canLayAll0, PyData.canLay0, lay_ints ns]
theorem asc_strOk {x : Str} (h : asc x = true) : PyData.strOk x = true := by
  unfold PyData.strOk
  rw [Array.all_eq_true']
  intro c m
  have := (ascE h).1 c (Array.mem_toList_iff.mpr m)
  exact decide_eq_true (by omega)
theorem dp_keys {K : PySem.W.Frag} {H : Hp} : ∀ ks : List Key, DpAll K H (ks.map kV) (ks.map keyP)
  | [] => .nil
  | .inl i :: ks => .cons (.int i) (dp_keys ks)
  | .inr x :: ks => .cons (.str x) (dp_keys ks)
theorem lay_keys : ∀ ks : List Key, ks.all ascK = true → PyData.canLayAll0 (ks.map keyP) = true
  | [], _ => by simp [PyData.canLayAll0]
  | .inl i :: ks, h => by
    rw [List.all_cons, Bool.and_eq_true] at h
    simp [PyData.canLayAll0, keyP, PyData.canLay0, lay_keys ks h.2]
  | .inr x :: ks, h => by
    rw [List.all_cons, Bool.and_eq_true] at h
    have q : PyData.strOk x = true := asc_strOk h.1
    simp [PyData.canLayAll0, keyP, PyData.canLay0, lay_keys ks h.2, q]
mutual
theorem Rep.dp {K : PySem.W.Frag} {H : Hp} : ∀ {v : V} {d : D}, Rep K H v d → d.py = true → Dp K H v d.toPy ∧ d.toPy.canLay0 = true
  | _, _, .non, _ => ⟨by rw [D.toPy]; exact .non, by rw [D.toPy, PyData.canLay0]⟩
  | _, _, .bl b, _ => ⟨by rw [D.toPy]; exact .bl b, by rw [D.toPy, PyData.canLay0]⟩
  | _, _, .int i, _ => ⟨by rw [D.toPy]; exact .int i, by rw [D.toPy, PyData.canLay0]⟩
  | _, _, .str x h, _ => ⟨by rw [D.toPy]; exact .str x, by rw [D.toPy, PyData.canLay0]; exact asc_strOk h⟩
  | _, _, .tup e r, h => by
    rw [D.py] at h
    obtain ⟨a, b⟩ := Reps.dp r h
    rw [D.toPy, PyData.canLay0]
    exact ⟨.tup (e.sq K) a, b⟩
  | _, _, .lst e r, h => by
    rw [D.py] at h
    obtain ⟨a, b⟩ := Reps.dp r h
    rw [D.toPy, PyData.canLay0]
    exact ⟨.lst (.inl (.inl e)) a, b⟩
  | _, _, .dK _ _ _, h => by rw [D.py] at h; cases h
  | _, _, .dT _ _ _, h => by rw [D.py] at h; cases h
  | _, _, .scr e, _ => by
    rw [D.toPy, PyData.canLay0]
    exact ⟨.lst e (dp_ints _), lay_ints _⟩
  | _, _, .rp _, h => by rw [D.py] at h; cases h
  | _, _, .ty _, h => by rw [D.py] at h; cases h
  | _, _, .key e h, _ => by
    rw [D.toPy, PyData.canLay0]
    exact ⟨.tup (.inl (.inl e)) (dp_keys _), lay_keys _ h⟩
theorem Reps.dp {K : PySem.W.Frag} {H : Hp} : ∀ {vs : List V} {ds : List D}, Reps K H vs ds → pyL ds = true → DpAll K H vs (toPyL ds) ∧ PyData.canLayAll0 (toPyL ds) = true
  | _, _, .nil, _ => ⟨by rw [toPyL]; exact .nil, by rw [toPyL, PyData.canLayAll0]⟩
  | _, _, .cons h r, q => by
    rw [pyL, Bool.and_eq_true] at q
    obtain ⟨a, b⟩ := Rep.dp h q.1
    obtain ⟨c, d⟩ := Reps.dp r q.2
    rw [toPyL, PyData.canLayAll0, Bool.and_eq_true]
    exact ⟨.cons a c, b, d⟩
end
def eqv (d e : D) : Bool := PyData.eqv d.toPy e.toPy
def eqOk (d e : D) : Bool := d.py && e.py && decide (min d.toPy.depth e.toPy.depth ≤ 60)

section
variable {X : Cx}
def rEqA (K : PySem.W.Frag) (neg : Bool) : R2 := fun x y H Q => ∃ d e, Dp K H x d ∧ Dp K H y e ∧ d.canLay0 = true ∧ e.canLay0 = true ∧ min d.depth e.depth ≤ 60 ∧ Q (.bl (if neg then !PyData.eqv d e else PyData.eqv d e)) H
theorem op_eqA (hu : X.A.units + 65 < cLine) : OpR X (compareOp .Eq) (rEqA X.K false) := by
  intro pins s σ H x y v u Q I rx ry ⟨d, e, hd, he, ld, le, hm, q⟩
  obtain ⟨as, r1⟩ := Dp.reads I d x v hd rx
  obtain ⟨bs, r2⟩ := Dp.reads I e y u he ry
  exact SeqAt.compareEq_reads r1 r2 ld le (by omega) ⟨.bl _, H, I, rfl, q⟩
theorem op_neA (hu : X.A.units + 65 < cLine) : OpR X (compareOp .NotEq) (rEqA X.K true) := by
  intro pins s σ H x y v u Q I rx ry ⟨d, e, hd, he, ld, le, hm, q⟩
  obtain ⟨as, r1⟩ := Dp.reads I d x v hd rx
  obtain ⟨bs, r2⟩ := Dp.reads I e y u he ry
  exact SeqAt.compareNe_reads r1 r2 ld le (by omega) ⟨.bl _, H, I, rfl, q⟩
end
def eqB (d e : D) : Option Bool := match d, e with
  | .rp a, .rp b => some (decide (a.shown = b.shown))
  | .rp a, .str y => some (decide (a.shown = y))
  | .str x, .rp b => some (decide (x = b.shown))
  | d, e => if eqOk d e = true then some (eqv d e) else none
def eqD (d e : D) : Option D := (eqB d e).bind fun c => some (.bl c)
def neD (d e : D) : Option D := (eqB d e).bind fun c => some (.bl (!c))
theorem eqOkE {d e : D} (h : eqOk d e = true) : d.py = true ∧ e.py = true ∧ min d.toPy.depth e.toPy.depth ≤ 60 := by
  unfold eqOk at h
  rw [Bool.and_eq_true, Bool.and_eq_true, decide_eq_true_eq] at h
  exact ⟨h.1.1, h.1.2, h.2⟩
abbrev rEqU (K : PySem.W.Frag) : R2 := fun x y H Q => rEqA K false x y H Q ∨ rEq x y H Q
abbrev rNeU (K : PySem.W.Frag) : R2 := fun x y H Q => rEqA K true x y H Q ∨ rNe x y H Q
theorem op_eqU {X : Cx} (hu : X.A.units + 65 < cLine) : OpR X (compareOp .Eq) (rEqU X.K) := (op_eqA hu).or op_eq
theorem op_neU {X : Cx} (hu : X.A.units + 65 < cLine) : OpR X (compareOp .NotEq) (rNeU X.K) := (op_neA hu).or op_ne
section
variable {K : PySem.W.Frag}
theorem Vw.rpE {F H : Hp} {v : V} {p : PyData} (h : Vw K F H v (.rp p)) : v = .str p.shown := by
  cases h with
  | rep r => cases r; rfl
theorem dec_strV (x y : Str) : decide (V.str x = V.str y) = decide (x = y) := by
  by_cases h : x = y
  · subst h; simp
  · rw [decide_eq_false h, decide_eq_false (fun e => h (V.str.inj e))]
theorem eq_core {F H : Hp} {x y : V} {d e : D} {c : Bool} (sm : Sub F H) (hx : Vw K F H x d) (hy : Vw K F H y e) (h : eqB d e = some c) :
    (∃ p q, Dp K H x p ∧ Dp K H y q ∧ p.canLay0 = true ∧ q.canLay0 = true ∧ min p.depth q.depth ≤ 60 ∧ PyData.eqv p q = c) ∨ (scal x y = true ∧ decide (x = y) = c) := by
  unfold eqB at h
  split at h
  · cases h
    rw [hx.rpE, hy.rpE]
    exact .inr ⟨rfl, dec_strV _ _⟩
  · cases h
    rw [hx.rpE, hy.strE.1]
    exact .inr ⟨rfl, dec_strV _ _⟩
  · cases h
    rw [hx.strE.1, hy.rpE]
    exact .inr ⟨rfl, dec_strV _ _⟩
  · split at h
    · rename_i c
      cases h
      obtain ⟨h1, h2, h3⟩ := eqOkE c
      obtain ⟨a1, a2⟩ := (hx.whole sm (py_nod h1)).dp h1
      obtain ⟨b1, b2⟩ := (hy.whole sm (py_nod h2)).dp h2
      exact .inl ⟨_, _, a1, b1, a2, b2, h3, rfl⟩
    · cases h
theorem s_eq : Op2 K .leaf (rEqU K) eqD := by
  intro F H x y d e z Q sm hx hy hf ok
  unfold eqD at hf
  cases h : eqB d e with
  | none => rw [h] at hf; cases hf
  | some c =>
    rw [h] at hf
    cases hf
    have q := ok.here sm (.bl c)
    rcases eq_core sm hx hy h with ⟨p, p', a1, a2, a3, a4, a5, a6⟩ | ⟨a1, a2⟩
    · exact .inl ⟨p, p', a1, a2, a3, a4, a5, by rw [a6]; exact q⟩
    · exact .inr ⟨a1, by rw [a2]; exact q⟩
theorem s_ne : Op2 K .leaf (rNeU K) neD := by
  intro F H x y d e z Q sm hx hy hf ok
  unfold neD at hf
  cases h : eqB d e with
  | none => rw [h] at hf; cases hf
  | some c =>
    rw [h] at hf
    cases hf
    have q := ok.here sm (.bl (!c))
    rcases eq_core sm hx hy h with ⟨p, p', a1, a2, a3, a4, a5, a6⟩ | ⟨a1, a2⟩
    · exact .inl ⟨p, p', a1, a2, a3, a4, a5, by rw [a6]; exact q⟩
    · exact .inr ⟨a1, by rw [a2]; exact q⟩

/-! ### numbers -/
def i2 (g : Int → Int → Option D) : D → D → Option D
  | .int i, .int j => g i j
  | _, _ => none
theorem i2E {g : Int → Int → Option D} {d e z : D} (h : i2 g d e = some z) : ∃ i j, d = .int i ∧ e = .int j ∧ g i j = some z := by
  unfold i2 at h
  split at h
  · exact ⟨_, _, rfl, rfl, h⟩
  · cases h
def subD := i2 fun i j => some (.int (i - j))
theorem s_sub : Op2 K .leaf (rI0 fun i j => .int (i - j)) subD := by
  intro F H x y d e z Q sm hx hy hf ok
  obtain ⟨i, j, rfl, rfl, h⟩ := i2E hf
  cases h
  exact ⟨i, j, hx.intE, hy.intE, ok.here sm (.int _)⟩
def fdivD := i2 fun i j => if 0 < j ∧ j < 10 ^ 30 then some (.int (i / j)) else none
theorem s_fdiv : Op2 K .leaf (rI CDivW fun i j => .int (i / j)) fdivD := by
  intro F H x y d e z Q sm hx hy hf ok
  obtain ⟨i, j, rfl, rfl, h⟩ := i2E hf
  by_cases c : 0 < j ∧ j < 10 ^ 30
  · rw [if_pos c] at h
    cases h
    refine ⟨i, j, hx.intE, hy.intE, wide_div (b := 100) c.1 ?_ (by decide) (by decide), ok.here sm (.int _)⟩
    have h1 : j < 1000000000000000000000000000000 := c.2
    have h2 : (2 ^ 100 : Nat) = 1267650600228229401496703205376 := by decide
    rw [h2]
    omega
  · rw [if_neg c] at h; cases h
def modD := i2 fun i j => if 0 < j then some (.int (i % j)) else none
theorem s_mod : Op2 K .leaf (rI (fun _ j => 0 < j) fun i j => .int (i % j)) modD := by
  intro F H x y d e z Q sm hx hy hf ok
  obtain ⟨i, j, rfl, rfl, h⟩ := i2E hf
  by_cases c : 0 < j
  · rw [if_pos c] at h
    cases h
    exact ⟨i, j, hx.intE, hy.intE, c, ok.here sm (.int _)⟩
  · rw [if_neg c] at h; cases h
def powD := i2 fun i j => if 0 ≤ j ∧ j ≤ 1000 ∧ i.natAbs < 2 ^ 64 then some (.int (i ^ j.toNat)) else none
theorem s_pow : Op2 K .leaf (rI CPow fun i j => .int (i ^ j.toNat)) powD := by
  intro F H x y d e z Q sm hx hy hf ok
  obtain ⟨i, j, rfl, rfl, h⟩ := i2E hf
  by_cases c : 0 ≤ j ∧ j ≤ 1000 ∧ i.natAbs < 2 ^ 64
  · rw [if_pos c] at h
    cases h
    exact ⟨i, j, hx.intE, hy.intE, ⟨c.1, by omega, c.2.2⟩, ok.here sm (.int _)⟩
  · rw [if_neg c] at h; cases h
def ltD := i2 fun i j => some (.bl (decide (i < j)))
def leD := i2 fun i j => some (.bl (decide (i ≤ j)))
def gtD := i2 fun i j => some (.bl (decide (j < i)))
def geD := i2 fun i j => some (.bl (decide (j ≤ i)))
theorem s_b {g : Int → Int → Bool} : Op2 K .leaf (rI0 fun i j => .bl (g i j)) (i2 fun i j => some (.bl (g i j))) := by
  intro F H x y d e z Q sm hx hy hf ok
  obtain ⟨i, j, rfl, rfl, h⟩ := i2E hf
  cases h
  exact ⟨i, j, hx.intE, hy.intE, ok.here sm (.bl _)⟩
def negD : D → Option D
  | .int i => some (.int (-i))
  | _ => none
theorem s_neg : Op1 K .leaf (rU fun i => .int (-i)) negD := by
  intro F H x d z Q sm hx hf ok
  unfold negD at hf
  split at hf
  · cases hf
    exact ⟨_, hx.intE, ok.here sm (.int _)⟩
  · cases hf
/-! ### + -/
def addD : D → D → Option D
  | .int i, .int j => some (.int (i + j))
  | .str x, .str y => if x.length + y.length ≤ 16777216 then some (.str (x ++ y)) else none
  | .tup xs, .tup ys => if xs.length + ys.length ≤ 16777216 then some (.tup (xs ++ ys)) else none
  | .lst xs, .lst ys => if xs.length + ys.length ≤ 16777216 then some (.lst (xs ++ ys)) else none
  | _, _ => none
abbrev rAddA (K : PySem.W.Frag) : R2 := fun x y H Q => (rI0 fun i j => .int (i + j)) x y H Q ∨ (∃ i j, x = .str i ∧ y = .str j ∧ i.length + j.length ≤ sizeLine ∧ Q (.str (i ++ j)) H) ∨ rCatF K x y H Q ∨ rCat x y H Q
theorem op_addA {X : Cx} : OpR X (binaryOp .Add) (rAddA X.K) := op_add.or (op_add_str.or (op_catF.or op_cat))
theorem rep_key {K : PySem.W.Frag} {F : Hp} : ∀ k : Key, ascK k = true → Rep K F (kV k) (keyD k)
  | .inl i, _ => .int i
  | .inr x, h => .str x h
theorem reps_keys {K : PySem.W.Frag} {F : Hp} : ∀ ks : List Key, ks.all ascK = true → Reps K F (ks.map kV) (ks.map keyD)
  | [], _ => .nil
  | k :: ks, h => by
    rw [List.all_cons, Bool.and_eq_true] at h
    exact .cons (rep_key k h.1) (reps_keys ks h.2)
theorem Vw.keyR {F H : Hp} (sm : Sub F H) {v : V} {ks : List Key} (h : Vw K F H v (.key ks)) : ∃ p, v = .ref p ∧ SqT K H p (ks.map kV) ∧ Reps K F (ks.map kV) (ks.map keyD) := by
  obtain ⟨p, e1, e2, e3⟩ := h.keyE
  exact ⟨p, e1, .of (sm _ _ e2), reps_keys ks e3⟩
theorem Vw.tupR {F H : Hp} (sm : Sub F H) {v : V} {ds : List D} (h : Vw K F H v (.tup ds)) : ∃ p vs, v = .ref p ∧ SqT K H p vs ∧ TupF F p vs ∧ Reps K F vs ds := by
  obtain ⟨p, vs, e1, e2, e3⟩ := h.tupE
  exact ⟨p, vs, e1, (e2.mono sm).sq K, e2, e3⟩
theorem s_add : Op2 K .leaf (rAddA K) addD := by
  intro F H x y d e z Q sm hx hy hf ok
  unfold addD at hf
  split at hf
  · cases hf
    exact .inl ⟨_, _, hx.intE, hy.intE, ok.here sm (.int _)⟩
  · split at hf
    · rename_i c
      cases hf
      exact .inr (.inl ⟨_, _, hx.strE.1, hy.strE.1, line_ok c, ok.here sm (.str _ (asc_cat hx.strE.2 hy.strE.2 c))⟩)
    · cases hf
  · split at hf
    · rename_i c
      cases hf
      obtain ⟨p, vs, e1, e2, e2', e3⟩ := hx.tupR sm
      obtain ⟨q, ws, e4, e5, e5', e6⟩ := hy.tupR sm
      refine .inr (.inr (.inl ⟨p, q, vs, ws, e1, e4, e2, e5, ?_, fun z => ?_, fun z z' => ?_, fun _ _ t us nt => ok.newT sm (e3.append e6) nt⟩))
      · rw [e3.length, e6.length]; exact line_ok c
      · subst z
        cases e3
        exact ok.here sm (.tup e5' e6)
      · subst z'
        cases e6
        rw [List.append_nil] at ok
        exact ok.here sm (.tup e2' e3)
    · cases hf
  · split at hf
    · rename_i c
      cases hf
      obtain ⟨p, vs, e1, e2, e3⟩ := hx.lstE sm
      obtain ⟨q, ws, e4, e5, e6⟩ := hy.lstE sm
      refine .inr (.inr (.inr ⟨p, q, vs, ws, e1, e4, e2, e5, ?_, fun t nt => ok.newLf sm (e3.append e6) nt⟩))
      rw [e3.length, e6.length]; exact line_ok c
    · cases hf
  · cases hf
/-- two lists: a new one, owned -/
def catD : D → D → Option D
  | .lst xs, .lst ys => if xs.length + ys.length ≤ 16777216 then some (.lst (xs ++ ys)) else none
  | _, _ => none
theorem s_cat : Op2 K (.lst .leaf) rCat catD := by
  intro F H x y d e z Q sm hx hy hf ok
  unfold catD at hf
  split at hf
  · split at hf
    · rename_i c
      cases hf
      obtain ⟨p, vs, e1, e2, e3⟩ := hx.lstE sm
      obtain ⟨q, ws, e4, e5, e6⟩ := hy.lstE sm
      refine ⟨p, q, vs, ws, e1, e4, e2, e5, ?_, fun t nt => ok.newL sm (e3.append e6) nt⟩
      rw [e3.length, e6.length]; exact line_ok c
    · cases hf
  · cases hf

/-! ### * -/
def repS (x : Str) (k : Nat) : Str := ⟨(List.replicate k x.cps.toList).flatten.toArray⟩
theorem foldl_cat (x : Array Nat) : ∀ (k : Nat) (a : Array Nat), ((List.replicate k x).foldl (· ++ ·) a).toList = a.toList ++ (List.replicate k x.toList).flatten
  | 0, a => by simp
  | k + 1, a => by
    rw [List.replicate_succ, List.foldl_cons, foldl_cat x k (a ++ x), List.replicate_succ, List.flatten_cons, Array.toList_append, List.append_assoc]
theorem op_mul_str {X : Cx} : OpR X (binaryOp .Mult) (fun x y H Q => ∃ z k, x = .str z ∧ y = .int k ∧ 0 ≤ k ∧ k ≤ 1000 ∧ z.length ≤ 1000 ∧ Q (.str (repS z k.toNat)) H) := by
  intro pins s σ H x y v u Q I rx ry ⟨z, k, ex, ey, h0, h1, h2, q⟩
  subst ex ey
  obtain ⟨t, rfl⟩ := rx
  obtain ⟨t', rfl⟩ := ry
  have key : ∀ n : Nat, n = k.toNat → (repS z n).cps.toList = (List.replicate n z.cps.toList).flatten := fun n _ => by simp [repS]
  have hsz : z.length * k.toNat ≤ 1000000 := by
    have h3 : k.toNat ≤ 1000 := by omega
    have h4 : z.length * k.toNat ≤ 1000 * 1000 := Nat.mul_le_mul h2 h3
    omega
  refine PySem.P.mul_str (by rw [decide_eq_false (by omega), decide_eq_false (by omega)]; rfl) (fun c1 c2 c3 => ?_) (fun _ _ => ?_) ?_
  · have h3 : (z.length : Int) ≤ 1000 := by omega
    have h4 : (1000 : Int) ≤ (2 ^ 63 - 1) / k := by
      refine (Int.le_ediv_iff_mul_le (by omega)).mpr ?_
      have : (1000 : Int) * k ≤ 1000 * 1000 := Int.mul_le_mul_of_nonneg_left h1 (by omega)
      omega
    omega
  · unfold Builtin.Str.tooLong
    rw [sizeLine_eq]
    exact decide_eq_false (by omega)
  · by_cases c1 : k < 1
    · rw [if_pos c1]
      have e0 : k.toNat = 0 := by omega
      rw [e0] at q
      refine ⟨by decide, .str Str.empty, H, I.tok _, ⟨_, rfl⟩, ?_⟩
      exact q
    · rw [if_neg c1]
      by_cases c2 : (k == 1 || z.length == 0) = true
      · rw [if_pos c2]
        have e1 : repS z k.toNat = z := by
          refine TL.ext_tl ?_
          show (repS z k.toNat).cps.toList = z.cps.toList
          rw [key _ rfl]
          rcases (Bool.or_eq_true _ _).mp c2 with c | c
          · have : k.toNat = 1 := by have := eq_of_beq c; omega
            rw [this]; simp
          · have : z.cps.toList = [] := by
              have q1 : z.length = 0 := eq_of_beq c
              have q2 : z.cps.toList.length = 0 := by rw [Array.length_toList]; exact q1
              exact List.eq_nil_of_length_eq_zero q2
            rw [this]; simp
        rw [e1] at q
        exact ⟨.str z, H, I, ⟨_, rfl⟩, q⟩
      · rw [if_neg c2]
        have e1 : (⟨(List.replicate k.toNat z.cps).foldl (· ++ ·) #[]⟩ : Str) = repS z k.toNat := by
          refine TL.ext_tl ?_
          show ((List.replicate k.toNat z.cps).foldl (· ++ ·) #[]).toList = (repS z k.toNat).cps.toList
          rw [key _ rfl, foldl_cat]
          simp
        rw [e1]
        refine ⟨?_, .str _, H, I.tok _, ⟨_, rfl⟩, q⟩
        show (repS z k.toNat).cps.size ≤ sizeLine
        rw [← Array.length_toList, key _ rfl, List.length_flatten, List.map_replicate, List.sum_replicate_nat, Array.length_toList, sizeLine_eq]
        have : k.toNat * z.cps.size = z.length * k.toNat := Nat.mul_comm _ _
        omega
def mulOk (i j : Int) : Bool := decide (-(2 ^ 64) < i ∧ i < 2 ^ 64) || decide (-(2 ^ 64) < j ∧ j < 2 ^ 64) || (decide (i.natAbs < 2 ^ 4000) && decide (j.natAbs < 2 ^ 4000))
def mulD : D → D → Option D
  | .int i, .int j => if mulOk i j = true then some (.int (i * j)) else none
  | .str x, .int k => if 0 ≤ k ∧ k ≤ 1000 ∧ x.length ≤ 1000 then some (.str (repS x k.toNat)) else none
  | .tup xs, .int k => if 2 ≤ k ∧ k ≤ 1000 ∧ xs.length ≤ 1000 ∧ xs.length ≠ 0 then some (.tup (List.replicate k.toNat xs).flatten) else none
  | .lst xs, .int k => if -1000 ≤ k ∧ k ≤ 1000 ∧ xs.length ≤ 1000 then some (.lst (List.replicate k.toNat xs).flatten) else none
  | _, _ => none
abbrev rMulA (K : PySem.W.Frag) : R2 := fun x y H Q => (rI CMul fun i j => .int (i * j)) x y H Q ∨ (rI CMulW fun i j => .int (i * j)) x y H Q ∨ (∃ z k, x = .str z ∧ y = .int k ∧ 0 ≤ k ∧ k ≤ 1000 ∧ z.length ≤ 1000 ∧ Q (.str (repS z k.toNat)) H) ∨ rRepF K x y H Q ∨ rRep x y H Q
theorem op_mulA {X : Cx} : OpR X (binaryOp .Mult) (rMulA X.K) := op_mul.or (op_mulW.or (op_mul_str.or (op_repF.or op_rep)))
theorem asc_rep {x : Str} (h : asc x = true) {k : Nat} (hk : k ≤ 1000) (hl : x.length ≤ 1000) : asc (repS x k) = true := by
  have e : (repS x k).cps.toList = (List.replicate k x.cps.toList).flatten := by simp [repS]
  refine asc_mk (fun c m => ?_) ?_
  · rw [e, List.mem_flatten] at m
    obtain ⟨l, m1, m2⟩ := m
    rw [List.mem_replicate] at m1
    rw [m1.2] at m2
    exact (ascE h).1 c m2
  · show (repS x k).cps.size ≤ _
    rw [← Array.length_toList, e, List.length_flatten, List.map_replicate, List.sum_replicate_nat, Array.length_toList]
    have : k * x.cps.size ≤ 1000 * 1000 := Nat.mul_le_mul hk hl
    omega
theorem s_mul : Op2 K .leaf (rMulA K) mulD := by
  intro F H x y d e z Q sm hx hy hf ok
  unfold mulD at hf
  split at hf
  · split at hf
    · rename_i i j c
      cases hf
      unfold mulOk at c
      rw [Bool.or_eq_true, Bool.or_eq_true, Bool.and_eq_true, decide_eq_true_eq, decide_eq_true_eq, decide_eq_true_eq, decide_eq_true_eq] at c
      rcases c with (c | c) | c
      · exact .inl ⟨_, _, hx.intE, hy.intE, .inl c, ok.here sm (.int _)⟩
      · exact .inl ⟨_, _, hx.intE, hy.intE, .inr c, ok.here sm (.int _)⟩
      · exact .inr (.inl ⟨_, _, hx.intE, hy.intE, wide_mul c.1 c.2 (by decide) (by decide) (by decide), ok.here sm (.int _)⟩)
    · cases hf
  · split at hf
    · rename_i c
      cases hf
      exact .inr (.inr (.inl ⟨_, _, hx.strE.1, hy.intE, c.1, c.2.1, c.2.2, ok.here sm (.str _ (asc_rep hx.strE.2 (by omega) c.2.2))⟩))
    · cases hf
  · split at hf
    · rename_i c
      cases hf
      obtain ⟨p, vs, e1, e2, e2', e3⟩ := hx.tupR sm
      refine .inr (.inr (.inr (.inl ⟨p, _, vs, e1, hy.intE, e2, fun z => ?_, c.1, c.2.1, by rw [e3.length]; exact c.2.2.1, fun t us nt => ok.newT sm (e3.replicate _) nt⟩)))
      subst z
      cases e3
      exact c.2.2.2 rfl
    · cases hf
  · split at hf
    · rename_i k c
      cases hf
      obtain ⟨p, vs, e1, e2, e3⟩ := hx.lstE sm
      refine .inr (.inr (.inr (.inr ⟨p, _, vs, e1, hy.intE, e2, by omega, by omega, ?_, fun t nt => ok.newLf sm (e3.replicate _) nt⟩)))
      rw [e3.length, sizeLine_eq]
      have h3 : k.toNat ≤ 1000 := by omega
      have : _ * k.toNat ≤ 1000 * 1000 := Nat.mul_le_mul c.2.2 h3
      omega
    · cases hf
  · cases hf
end
end VL
/-! V5: items, slices, in, len, list, tuple, isinstance, all, any, sum, min, max, int, join, find, upper. -/
namespace VL
open PySem PySem.Spec L2

/-! ### keys -/
def keyK : D → Option Key
  | .int i => some (.inl i)
  | .str x => some (.inr x)
  | _ => none
def keyTs : List D → Option (List Key)
  | [] => some []
  | d :: ds => (keyK d).bind fun k => (keyTs ds).bind fun ks => some (k :: ks)
def keyT : D → Option (List Key)
  | .key ks => some ks
  | _ => none
def look {κ : Type} [DecidableEq κ] (ds : List (κ × D)) (k : κ) : Option D := (ds.find? fun kv => decide (kv.1 = k)).map Prod.snd
def put {κ : Type} [DecidableEq κ] (ds : List (κ × D)) (k : κ) (d : D) : List (κ × D) := if (ds.any fun kv => decide (kv.1 = k)) = true then ds.map fun kv => if kv.1 = k then (kv.1, d) else kv else ds ++ [(k, d)]
section
variable {K : PySem.W.Frag} {F H : Hp}
theorem keyKE {v : V} {d : D} {k : Key} (h : Vw K F H v d) (e : keyK d = some k) : v = kV k := by
  unfold keyK at e
  split at e
  · cases e; exact h.intE
  · cases e; exact h.strE.1
  · cases e
theorem keyTE (sm : Sub F H) {v : V} {d : D} {k : List Key} (h : Vw K F H v d) (e : keyT d = some k) : ∃ b, v = .ref b ∧ H b = some (.tup (k.map kV)) := by
  unfold keyT at e
  split at e
  · obtain ⟨p, e1, e2, _⟩ := h.keyE
    cases e
    exact ⟨p, e1, sm _ _ e2⟩
  · cases e
theorem look_val {κ : Type} [DecidableEq κ] (k : κ) : ∀ {kvs : List (κ × V)} {ds : List (κ × D)}, kvs.map Prod.fst = ds.map Prod.fst → Reps K F (kvs.map Prod.snd) (ds.map Prod.snd) →
    (look ds k = none → valV kvs k = none) ∧ ∀ d, look ds k = some d → ∃ v, valV kvs k = some v ∧ Rep K F v d
  | [], [], _, _ => ⟨fun _ => rfl, fun d h => by simp [look] at h⟩
  | [], _ :: _, e, _ => by cases e
  | _ :: _, [], e, _ => by cases e
  | (a, v) :: kvs, (b, d) :: ds, e, r => by
    have e1 : a = b := (List.cons.inj e).1
    have e2 := (List.cons.inj e).2
    subst e1
    cases r with
    | cons h t =>
      obtain ⟨i1, i2⟩ := look_val k e2 t
      by_cases c : a = k
      · refine ⟨fun z => by simp [look, c] at z, fun x z => ?_⟩
        have : d = x := by simpa [look, c] using z
        subst this
        exact ⟨v, by simp [valV, c], h⟩
      · have l1 : look ((a, d) :: ds) k = look ds k := by simp [look, c]
        have l2 : valV ((a, v) :: kvs) k = valV kvs k := by simp [valV, c]
        rw [l1, l2]
        exact ⟨i1, i2⟩
theorem look_some {κ : Type} [DecidableEq κ] (k : κ) {kvs : List (κ × V)} {ds : List (κ × D)} (e : kvs.map Prod.fst = ds.map Prod.fst) (r : Reps K F (kvs.map Prod.snd) (ds.map Prod.snd)) : (valV kvs k).isSome = (look ds k).isSome := by
  obtain ⟨l1, l2⟩ := look_val k e r
  cases e3 : look ds k with
  | none => rw [l1 e3]; rfl
  | some d => obtain ⟨w, w1, _⟩ := l2 d e3; rw [w1] <;> rfl
theorem any_key {κ : Type} [DecidableEq κ] (k : κ) : ∀ {kvs : List (κ × V)} {ds : List (κ × D)}, kvs.map Prod.fst = ds.map Prod.fst → (kvs.any fun kv => decide (kv.1 = k)) = ds.any fun kv => decide (kv.1 = k)
  | [], [], _ => rfl
  | [], _ :: _, e => by cases e
  | _ :: _, [], e => by cases e
  | (a, v) :: kvs, (b, d) :: ds, e => by
    have e1 : a = b := (List.cons.inj e).1
    subst e1
    simp only [List.any_cons, any_key k (List.cons.inj e).2]
theorem put_keys {κ : Type} [DecidableEq κ] (k : κ) (v : V) (d : D) {kvs : List (κ × V)} {ds : List (κ × D)} (e : kvs.map Prod.fst = ds.map Prod.fst) : (putK kvs k v).map Prod.fst = (put ds k d).map Prod.fst := by
  unfold putK put
  rw [any_key k e]
  have m1 : ∀ l : List (κ × V), (l.map fun kv => if kv.1 = k then (kv.1, v) else kv).map Prod.fst = l.map Prod.fst := fun l => by
    rw [List.map_map]; exact List.map_congr_left fun x _ => by show (if x.1 = k then (x.1, v) else x).1 = x.1; split <;> rfl
  have m2 : ∀ l : List (κ × D), (l.map fun kv => if kv.1 = k then (kv.1, d) else kv).map Prod.fst = l.map Prod.fst := fun l => by
    rw [List.map_map]; exact List.map_congr_left fun x _ => by show (if x.1 = k then (x.1, d) else x).1 = x.1; split <;> rfl
  split
  · rw [m1, m2, e]
  · rw [List.map_append, List.map_append, e]; rfl
theorem repl_reps {κ : Type} [DecidableEq κ] (k : κ) {v : V} {d : D} (r : Rep K F v d) : ∀ {kvs : List (κ × V)} {ds : List (κ × D)}, kvs.map Prod.fst = ds.map Prod.fst → Reps K F (kvs.map Prod.snd) (ds.map Prod.snd) →
    Reps K F ((kvs.map fun kv => if kv.1 = k then (kv.1, v) else kv).map Prod.snd) ((ds.map fun kv => if kv.1 = k then (kv.1, d) else kv).map Prod.snd)
  | [], [], _, _ => .nil
  | [], _ :: _, e, _ => by cases e
  | _ :: _, [], e, _ => by cases e
  | x :: kvs, y :: ds, e, q => by
    have e1 : x.1 = y.1 := (List.cons.inj e).1
    cases q with
    | cons h t =>
      refine .cons ?_ (repl_reps k r (List.cons.inj e).2 t)
      show Rep K F (if x.1 = k then (x.1, v) else x).2 (if y.1 = k then (y.1, d) else y).2
      rw [e1]
      split
      · exact r
      · exact h
theorem put_reps {κ : Type} [DecidableEq κ] (k : κ) {v : V} {d : D} (r : Rep K F v d) {kvs : List (κ × V)} {ds : List (κ × D)} (e : kvs.map Prod.fst = ds.map Prod.fst) (q : Reps K F (kvs.map Prod.snd) (ds.map Prod.snd)) : Reps K F ((putK kvs k v).map Prod.snd) ((put ds k d).map Prod.snd) := by
  unfold putK put
  rw [any_key k e]
  split
  · exact repl_reps k r e q
  · rw [List.map_append, List.map_append]
    exact q.append (.cons r .nil)
theorem put_len {κ : Type} [DecidableEq κ] (k : κ) (v : V) (d : D) {kvs : List (κ × V)} {ds : List (κ × D)} (e : kvs.map Prod.fst = ds.map Prod.fst) : kvs.length = ds.length := by
  have := congrArg List.length e
  simpa using this
end

/-! ### items -/
def ixD : D → D → Option D
  | .lst ds, .int i => atI ds i
  | .tup ds, .int i => atI ds i
  | .key ks, .int i => atI (ks.map keyD) i
  | .str z, .int i => (atI z.cps.toList i).bind fun c => some (.str ⟨#[c]⟩)
  | .dK kvs, k => (keyK k).bind fun q => look kvs q
  | .dT kvs, k => (keyT k).bind fun q => look kvs q
  | _, _ => none
abbrev rIxD : R2 := fun x y H Q => ∃ a v, x = .ref a ∧ DGet H a y (some v) ∧ Q v H
theorem ix_dict {X : Cx} (hu : X.A.units + 1 < cLine) : IxR X rIxD := by
  intro value slice pins s σ H x y v u Q I rx ry ⟨a, w, ex, g, q⟩ hs
  subst ex
  cases rx
  exact PyProof.Rows.tail_any (dict_typeIs I g) PySem.F.slot_dict_getitem.lookup (d_getItem hu I g ry fun w' s3 I3 rw' => ⟨w, H, I3, rw', q⟩) hs
abbrev rIxA (K : PySem.W.Frag) : R2 := fun x y H Q => rIxD x y H Q ∨ rIx K x y H Q
theorem ix_all {X : Cx} (hu : X.A.units + 1 < cLine) : IxR X (rIxA X.K) := (ix_dict hu).or ix_seq
section
variable {K : PySem.W.Frag}
theorem atI_reps {F : Hp} {vs : List V} {ds : List D} (r : Reps K F vs ds) {i : Int} {d : D} (h : atI ds i = some d) : ∃ v, atI vs i = some v ∧ Rep K F v d := by
  unfold atI at h ⊢
  rw [r.length]
  cases e : ixN ds.length i with
  | none => rw [e] at h; cases h
  | some j => rw [e] at h; exact r.get h
theorem atI_mem {α : Type} {xs : List α} {i : Int} {c : α} (h : atI xs i = some c) : c ∈ xs := by
  unfold atI at h
  cases e : ixN xs.length i with
  | none => rw [e] at h; cases h
  | some j => rw [e] at h; exact List.mem_of_getElem? h
theorem s_ix : Op2 K .leaf (rIxA K) ixD := by
  intro F H x y d e z Q sm hx hy hf ok
  unfold ixD at hf
  split at hf
  · obtain ⟨p, vs, e1, e2, e3⟩ := hx.lstE sm
    obtain ⟨w, q1, q2⟩ := atI_reps e3 hf
    exact .inr (.inl ⟨p, vs, _, w, e1, hy.intE, .of e2, q1, ok.here sm q2⟩)
  · obtain ⟨p, vs, e1, e2, _, e3⟩ := hx.tupR sm
    obtain ⟨w, q1, q2⟩ := atI_reps e3 hf
    exact .inr (.inr (.inl ⟨p, vs, _, w, e1, hy.intE, e2, q1, ok.here sm q2⟩))
  · obtain ⟨p, e1, e2, e3⟩ := hx.keyR sm
    obtain ⟨w, q1, q2⟩ := atI_reps e3 hf
    exact .inr (.inr (.inl ⟨p, _, _, w, e1, hy.intE, e2, q1, ok.here sm q2⟩))
  · rename_i zz i
    cases e : atI zz.cps.toList i with
    | none => rw [e] at hf; cases hf
    | some c =>
      rw [e] at hf
      cases hf
      exact .inr (.inr (.inr ⟨zz, i, c, hx.strE.1, hy.intE, asc_line hx.strE.2, e, ok.here sm (.str _ (asc_one hx.strE.2 (atI_mem e)))⟩))
  · cases e : keyK _ with
    | none => rw [e] at hf; cases hf
    | some k =>
      rw [e] at hf
      obtain ⟨p, kvs, e1, e2, e3, e4⟩ := hx.dKE sm
      obtain ⟨w, q1, q2⟩ := (look_val k e3 e4).2 _ hf
      refine .inl ⟨p, w, e1, ?_, ok.here sm q2⟩
      rw [keyKE hy e, ← q1]
      exact .inl ⟨_, _, e2, rfl, rfl⟩
  · cases e : keyT _ with
    | none => rw [e] at hf; cases hf
    | some k =>
      rw [e] at hf
      obtain ⟨p, kvs, e1, e2, e3, e4⟩ := hx.dTE sm
      obtain ⟨w, q1, q2⟩ := (look_val k e3 e4).2 _ hf
      obtain ⟨b, b1, b2⟩ := keyTE sm hy e
      refine .inl ⟨p, w, e1, ?_, ok.here sm q2⟩
      rw [b1, ← q1]
      exact .inr ⟨_, _, _, e2, rfl, b2, rfl⟩
  · cases hf

/-! ### in -/
abbrev rInA (K : PySem.W.Frag) (neg : Bool) : R2 := fun x y H Q => ∃ d ds, Dp K H x d ∧ (Dp K H y (.list ds) ∨ Dp K H y (.tuple ds)) ∧ d.canLay0 = true ∧ PyData.canLayAll0 ds = true ∧ d.depth ≤ 60 ∧ Q (.bl (if neg then !ds.any fun z => PyData.eqv z d else ds.any fun z => PyData.eqv z d)) H
abbrev rInDk (neg : Bool) : R2 := fun y x H Q => ∃ a o, x = .ref a ∧ DGet H a y o ∧ Q (.bl (if neg then !o.isSome else o.isSome)) H
abbrev rInStr (neg : Bool) : R2 := fun x y H Q => ∃ i j, x = .str i ∧ y = .str j ∧ Q (.bl (if neg then !(!(Builtin.Str.occurrences j i 0 j.length 1).isEmpty) else !(Builtin.Str.occurrences j i 0 j.length 1).isEmpty)) H
theorem op_inA {X : Cx} (hu : X.A.units + 64 < cLine) : OpR X (compareOp .In) (rInA X.K false) := by
  intro pins s σ H x y v u Q I rx ry ⟨d, ds, hd, he, l1, l2, hm, q⟩
  obtain ⟨as, r1⟩ := Dp.reads I d x v hd rx
  rcases he with he | he
  · obtain ⟨bs, r2⟩ := Dp.reads I _ y u he ry
    exact SeqAt.in_list_reads r2 r1 l2 l1 (by omega) ⟨.bl _, H, I, rfl, q⟩
  · obtain ⟨bs, r2⟩ := Dp.reads I _ y u he ry
    exact SeqAt.in_tuple_reads r2 r1 l2 l1 (by omega) ⟨.bl _, H, I, rfl, q⟩
theorem op_inDk {X : Cx} (hu : X.A.units + 1 < cLine) : OpR X (compareOp .In) (rInDk false) := by
  intro pins s σ H y x v u Q I ry rx ⟨a, o, ex, g, q⟩
  subst ex
  cases rx
  exact d_in hu I g ry fun s3 I3 => ⟨.bl _, H, I3, rfl, q⟩
abbrev rInU (K : PySem.W.Frag) (neg : Bool) : R2 := fun x y H Q => rInStr neg x y H Q ∨ rInA K neg x y H Q ∨ rInDk neg x y H Q
theorem op_inU {X : Cx} (hu : X.A.units + 64 < cLine) : OpR X (compareOp .In) (rInU X.K false) := OpR.or (r := rInStr false) op_in_str ((op_inA hu).or (op_inDk (by omega)))
def memD (d : D) (ds : List D) : Bool := ds.any fun z => eqv z d
def memOk (d : D) (ds : List D) : Bool := d.py && pyL ds && decide (d.toPy.depth ≤ 60)
def inB (d : D) : D → Option Bool
  | .str y => (match d with | .str x => some (!(Builtin.Str.occurrences y x 0 y.length 1).isEmpty) | _ => none)
  | .lst ds => if memOk d ds = true then some (memD d ds) else none
  | .tup ds => if memOk d ds = true then some (memD d ds) else none
  | .key ks => if memOk d (ks.map keyD) = true then some (memD d (ks.map keyD)) else none
  | .dK kvs => (keyK d).bind fun k => some (look kvs k).isSome
  | .dT kvs => (keyT d).bind fun k => some (look kvs k).isSome
  | _ => none
def inD (d e : D) : Option D := (inB d e).bind fun c => some (.bl c)
theorem any_toPy (p : PyData) : ∀ ds : List D, (toPyL ds).any (fun z => PyData.eqv z p) = ds.any fun z => PyData.eqv z.toPy p
  | [] => by rw [toPyL]; rfl
  | d :: ds => by rw [toPyL, List.any_cons, List.any_cons, any_toPy p ds]
theorem s_inU (neg : Bool) : Op2 K .leaf (rInU K neg) (fun d e => (inB d e).bind fun c => some (.bl (if neg then !c else c))) := by
  intro F H x y d e z Q sm hx hy hf ok
  dsimp only at hf
  cases e1 : inB d e with
  | none => rw [e1] at hf; cases hf
  | some c =>
    rw [e1] at hf
    cases hf
    have sc : ∀ {ds : List D}, memOk d ds = true → d.py = true ∧ pyL ds = true ∧ d.toPy.depth ≤ 60 := fun {ds} h => by
      unfold memOk at h
      rw [Bool.and_eq_true, Bool.and_eq_true, decide_eq_true_eq] at h
      exact ⟨h.1.1, h.1.2, h.2⟩
    unfold inB at e1
    split at e1
    · split at e1
      · cases e1
        exact .inl ⟨_, _, hx.strE.1, hy.strE.1, ok.here sm (.bl _)⟩
      · cases e1
    · rename_i ds
      split at e1
      · rename_i cc
        cases e1
        obtain ⟨h1, h2, h3⟩ := sc cc
        obtain ⟨a1, a2⟩ := (hx.whole sm (py_nod h1)).dp h1
        obtain ⟨p, vs, q1, q2, q3⟩ := hy.lstE sm
        obtain ⟨b1, b2⟩ := (q3.mono sm.sm).dp h2
        subst q1
        refine .inr (.inl ⟨_, _, a1, .inl (.lst (.inl (.inl q2)) b1), a2, b2, h3, ?_⟩)
        rw [any_toPy]
        exact ok.here sm (.bl _)
      · cases e1
    · rename_i ds
      split at e1
      · rename_i cc
        cases e1
        obtain ⟨h1, h2, h3⟩ := sc cc
        obtain ⟨a1, a2⟩ := (hx.whole sm (py_nod h1)).dp h1
        obtain ⟨p, vs, q1, q2, _, q3⟩ := hy.tupR sm
        obtain ⟨b1, b2⟩ := (q3.mono sm.sm).dp h2
        subst q1
        refine .inr (.inl ⟨_, _, a1, .inr (.tup q2 b1), a2, b2, h3, ?_⟩)
        rw [any_toPy]
        exact ok.here sm (.bl _)
      · cases e1
    · rename_i ks
      split at e1
      · rename_i cc
        cases e1
        obtain ⟨h1, h2, h3⟩ := sc cc
        obtain ⟨a1, a2⟩ := (hx.whole sm (py_nod h1)).dp h1
        obtain ⟨p, q1, q2, q3⟩ := hy.keyR sm
        obtain ⟨b1, b2⟩ := (q3.mono sm.sm).dp h2
        subst q1
        refine .inr (.inl ⟨_, _, a1, .inr (.tup q2 b1), a2, b2, h3, ?_⟩)
        rw [any_toPy]
        exact ok.here sm (.bl _)
      · cases e1
    · cases e2 : keyK d with
      | none => rw [e2] at e1; cases e1
      | some k =>
        rw [e2] at e1
        cases e1
        obtain ⟨p, kvs, q1, q2, q3, q4⟩ := hy.dKE sm
        refine .inr (.inr ⟨p, valV kvs k, q1, by rw [keyKE hx e2]; exact .inl ⟨_, _, q2, rfl, rfl⟩, ?_⟩)
        rw [look_some k q3 q4]
        exact ok.here sm (.bl _)
    · cases e2 : keyT d with
      | none => rw [e2] at e1; cases e1
      | some k =>
        rw [e2] at e1
        cases e1
        obtain ⟨p, kvs, q1, q2, q3, q4⟩ := hy.dTE sm
        obtain ⟨b, b1, b2⟩ := keyTE sm hx e2
        refine .inr (.inr ⟨p, valV kvs k, q1, by rw [b1]; exact .inr ⟨_, _, _, q2, rfl, b2, rfl⟩, ?_⟩)
        rw [look_some k q3 q4]
        exact ok.here sm (.bl _)
    · cases e1
theorem s_in : Op2 K .leaf (rInU K false) inD := s_inU false
/-! ### slices -/
def cutL {α : Type} (xs : List α) (lo hi : Option Int) : List α := (xs.drop (HT.sIx xs.length 0 lo)).take (HT.sIx xs.length xs.length hi - HT.sIx xs.length 0 lo)
def cutD (lo hi : Option Int) : D → Option D
  | .lst ds => some (.lst (cutL ds lo hi))
  | .tup ds => some (.tup (cutL ds lo hi))
  | .str z => some (.str ⟨(cutL z.cps.toList lo hi).toArray⟩)
  | .scr ns => some (.lst ((cutL ns lo hi).map .int))
  | _ => none
theorem cut_reps {F : Hp} {vs : List V} {ds : List D} (r : Reps K F vs ds) (lo hi : Option Int) : Reps K F (cutV vs lo hi) (cutL ds lo hi) := by
  unfold cutV cutL
  rw [r.length]
  exact (r.drop _).take _
theorem cut_ints (ns : List Int) (lo hi : Option Int) : cutV (ns.map V.int) lo hi = (cutL ns lo hi).map V.int := by
  unfold cutV cutL
  rw [List.length_map, List.map_take, List.map_drop]
theorem reps_ints {F : Hp} : ∀ ns : List Int, Reps K F (ns.map V.int) (ns.map D.int)
  | [] => .nil
  | n :: ns => .cons (.int n) (reps_ints ns)
abbrev rSlU (K : PySem.W.Frag) : V → Option Int → Option Int → Hp → VK → Prop := fun x lo hi H Q => rSlL K x lo hi H Q ∨ rSlF K x lo hi H Q ∨ rSlS x lo hi H Q
theorem sl_all {X : Cx} : SlR X (rSlU X.K) := sl_list.or (sl_tupF.or sl_str)
theorem s_sl (lo hi : Option Int) : Op1 K .leaf (fun x H Q => rSlU K x lo hi H Q) (cutD lo hi) := by
  intro F H x d z Q sm hx hf ok
  unfold cutD at hf
  split at hf
  · cases hf
    obtain ⟨p, vs, e1, e2, e3⟩ := hx.lstE sm
    exact .inl ⟨p, vs, e1, .of e2, fun t nt => ok.newLf sm (cut_reps e3 lo hi) nt⟩
  · rename_i ds
    cases hf
    obtain ⟨p, vs, e1, e2, e2', e3⟩ := hx.tupR sm
    refine .inr (.inl ⟨p, vs, e1, e2, fun w => ?_, fun _ t us nt => ok.newT sm (cut_reps e3 lo hi) nt⟩)
    have : cutL ds lo hi = ds := by
      unfold cutL
      rw [← e3.length, w.1, w.2, List.drop_zero, Nat.sub_zero, e3.length, List.take_length]
    rw [this] at ok
    exact ok.here sm (.tup e2' e3)
  · rename_i zz
    cases hf
    refine .inr (.inr ⟨zz, hx.strE.1, asc_line hx.strE.2, ?_⟩)
    have e : cutS zz lo hi = ⟨(cutL zz.cps.toList lo hi).toArray⟩ := by
      unfold cutS cutL
      rw [Array.length_toList] <;> rfl
    rw [e]
    refine ok.here sm (.str _ (asc_sub hx.strE.2 (fun c m => ?_) ?_))
    · exact List.mem_of_mem_drop (List.mem_of_mem_take m)
    · unfold cutL
      rw [List.length_take, List.length_drop]
      show _ ≤ zz.cps.size
      rw [← Array.length_toList]
      omega
  · cases hf
    obtain ⟨p, e1, e2⟩ := hx.scrE sm
    refine .inl ⟨p, _, e1, e2, fun t nt => ?_⟩
    rw [cut_ints]
    exact ok.newLf sm (reps_ints _) nt
  · cases hf
end
section
variable {X : Cx} {ks : List Sh} {W : WX} {e a c : Expr} {es : List Expr} {t ta tc : TE} {m : ME} {pos p2 : Pos} {sh : Sh}
structure EPt (X : Cx) (ks : List Sh) (W : WX) (o : Option Expr) (t : TO) (m : DEnv → R (Option Int)) : Prop where
  pe : PO X o t
  sd : ∀ ρ σ F H fp (Q : Option Int → Hp → Prop) {α : Type} (Ok : R α → Prop) (f : Option Int → DEnv → R α), Rel X.K ks F H ρ σ fp → Ok ((m ρ).bind f) → ¬ Ok .no → (∀ e ρ1, Ok (.ex e ρ1) → OkX (bd X ks W) F H fp σ e ρ1) →
    (∀ o ρ1 F1 H1 fp1, Ok (f o ρ1) → Rel X.K ks F1 H1 ρ1 σ fp1 → Ext F H fp F1 H1 fp1 → Q o H1) → t σ H Q
def mNoPart : DEnv → R (Option Int) := fun ρ => .ok none ρ
def asI : D → DEnv → R (Option Int)
  | .int i, ρ => .ok (some i) ρ
  | _, _ => .no
def mPart (m : ME) : DEnv → R (Option Int) := fun ρ => (m ρ).bind asI
theorem ept_none : EPt X ks W none tNoPart mNoPart := ⟨po_none, fun ρ σ F H fp Q _ Ok f r hok _ _ k => k none ρ F H fp hok r .refl⟩
theorem ept_some (h : EV X ks W e .leaf t m) : EPt X ks W (some e) (tPart t) (mPart m) := by
  refine ⟨po_some h.pe, fun ρ σ F H fp Q α Ok f r hok hn hx k => ?_⟩
  unfold mPart at hok
  rw [bind_assoc] at hok
  refine h.sd.go r (Ok := Ok) hok hn hx fun d ρ1 v F1 H1 fp1 h1 r1 x1 p1 => ?_
  cases d with
  | int i =>
    cases p1
    exact ⟨i, rfl, k (some i) ρ1 F1 H1 fp1 h1 r1 x1⟩
  | _ => exact (hn h1).elim
def mSl (f : Option Int → Option Int → D → Option D) (mo : MO) (l h : DEnv → R (Option Int)) : ME := fun ρ => (mo ρ).bind fun o ρ1 => (l ρ1).bind fun i ρ2 => (h ρ2).bind fun j ρ3 => R.of ((o.get ρ3).bind (f i j)) ρ3
theorem ev_slice {lo hi : Option Expr} {tl th : TO} {ml mh : DEnv → R (Option Int)} {mo : MO} {r : V → Option Int → Option Int → Hp → VK → Prop} {f : Option Int → Option Int → D → Option D} (hr : SlR X r) (hs : ∀ lo hi, Op1 X.K sh (fun x H Q => r x lo hi H Q) (f lo hi)) (ha : EO X ks W a ta mo) (hl : EPt X ks W lo tl ml) (hh : EPt X ks W hi th mh) :
    EV X ks W (.Subscript a (.Slice lo hi none p2) pos) sh (tSl r ta tl th) (mSl f mo ml mh) := by
  refine ⟨pe_slice hr ha.pe hl.pe hh.pe, fun ρ σ F H fp Q r0 hok => ?_⟩
  refine ha.sd.go r0 (Ok := OkE (bd X ks W) sh F H fp σ Q) hok (fun z => z) (fun _ _ z => z) fun x ρ1 v F1 H1 fp1 h1 r1 x1 o1 => ?_
  refine hl.sd ρ1 σ F1 H1 fp1 _ (OkE (bd X ks W) sh F1 H1 fp1 σ Q) _ r1 (h1.ext x1) (fun z => z) (fun _ _ z => z) fun i ρ2 F2 H2 fp2 h2 r2 x2 => ?_
  refine hh.sd ρ2 σ F2 H2 fp2 _ (OkE (bd X ks W) sh F2 H2 fp2 σ Q) _ r2 (h2.ext x2) (fun z => z) (fun _ _ z => z) fun j ρ3 F3 H3 fp3 h3 r3 x3 => ?_
  have o3 := (o1.mono (r1.same x2)).mono (r2.same x3)
  cases e1 : x.get ρ3 with
  | none => rw [e1] at h3; exact (show False from h3).elim
  | some d =>
    cases e2 : f i j d with
    | none => rw [e1, Option.bind_some, e2] at h3; exact (show False from h3).elim
    | some z =>
      rw [e1, Option.bind_some, e2] at h3
      exact hs i j F3 H3 v d z Q r3.sub (o3.vw r3 e1) e2 ((h3.ext x3).done r3)
end
end VL
/-! V6: statements; defs with the guards known; calls; the end. -/
namespace VL
open PySem PySem.Spec L2

inductive Fl where
  | nx | rt (d : D)
abbrev MS := DEnv → R Fl
/-- what is wanted of a statement's result; rsh: what a return hands out; fx: the slots ahead of which none is stored anew -/
def OkS (b : Bd) (rsh : Sh) (fx : Nat) (F H : Hp) (fp : List Addr) (σ : St) (D : Ends) : R Fl → Prop
  | .no => False
  | .ok .nx ρ' => ∀ σ' F' H' fp', Rel b.K b.ks F' H' ρ' σ' fp' → Ext F H fp F' H' fp' → σ'.take fx = σ.take fx → D.nx σ' H'
  | .ok (.rt d) ρ' => ∀ v σ' F' H' fp' fv, Rel b.K b.ks F' H' ρ' σ' fp' → (fp' ++ fv).Nodup → Ext F H fp F' H' (fp' ++ fv) → σ'.take fx = σ.take fx → OR b.K F' H' rsh v d fv → D.rt v H'
  | .ex e ρ' => ∀ cls dx σ' F' H' fp', Rel b.K b.ks F' H' ρ' σ' fp' → Ext F H fp F' H' fp' → σ'.take fx = σ.take fx → ExR b F' e cls dx → b.W cls dx σ' H'
def SndS (b : Bd) (rsh : Sh) (fx : Nat) (t : TS) (m : MS) : Prop := ∀ ρ σ F H fp D, Rel b.K b.ks F H ρ σ fp → OkS b rsh fx F H fp σ D (m ρ) → t D σ H
theorem OkS.ext {b : Bd} {rsh : Sh} {fx : Nat} {F H F1 H1 : Hp} {fp f1 : List Addr} {σ σ1 : St} {D : Ends} (a : Ext F H fp F1 H1 f1) (s : σ1.take fx = σ.take fx) : ∀ {r : R Fl}, OkS b rsh fx F H fp σ D r → OkS b rsh fx F1 H1 f1 σ1 D r
  | .no, h => h
  | .ok .nx ρ', h => fun σ' F' H' fp' r x q => h σ' F' H' fp' r (a.trans x) (q.trans s)
  | .ok (.rt d) ρ', h => fun v σ' F' H' fp' fv r n x q o => h v σ' F' H' fp' fv r n (a.trans x) (q.trans s) o
  | .ex e ρ', h => fun cls dx σ' F' H' fp' r x q o => h cls dx σ' F' H' fp' r (a.trans x) (q.trans s) o
theorem OkS.x {b : Bd} {rsh : Sh} {fx : Nat} {F H : Hp} {fp : List Addr} {σ : St} {D : Ends} {e : Ex} {ρ1 : DEnv} (h : OkS b rsh fx F H fp σ D (.ex e ρ1)) : OkX b F H fp σ e ρ1 := fun cls dx F' H' fp' r x q => h cls dx σ F' H' fp' r x rfl q
structure SV (X : Cx) (ks : List Sh) (W : WX) (rsh : Sh) (fx : Nat) (st : Stmt) (t : TS) (m : MS) : Prop where
  pe : PS X st t
  sd : SndS (bd X ks W) rsh fx t m
structure SVs (X : Cx) (ks : List Sh) (W : WX) (rsh : Sh) (fx : Nat) (sts : List Stmt) (t : TS) (m : MS) : Prop where
  pe : PSs X sts t
  sd : SndS (bd X ks W) rsh fx t m
section
variable {X : Cx} {ks : List Sh} {W : WX} {rsh sh : Sh} {fx : Nat} {st : Stmt} {sts : List Stmt} {e a c : Expr} {es : List Expr} {t u : TS} {te tc : TE} {m n : MS} {me mc : ME} {pos : Pos}
def mNx : MS := fun ρ => .ok .nx ρ
def mSeq (m n : MS) : MS := fun ρ => (m ρ).bind fun f ρ1 => match f with | .nx => n ρ1 | .rt d => .ok (.rt d) ρ1
theorem svs_nil : SVs X ks W rsh fx [] tNext mNx := ⟨pss_nil, fun ρ σ F H fp D r h => h σ F H fp r .refl rfl⟩
theorem snd_seq {b : Bd} (h1 : SndS b rsh fx t m) (h2 : SndS b rsh fx u n) : SndS b rsh fx (tSeq t u) (mSeq m n) := by
  intro ρ σ F H fp D r h
  refine h1 ρ σ F H fp { D with nx := u D } r ?_
  unfold mSeq at h
  cases e1 : m ρ with
  | no => rw [e1] at h; exact h
  | ex x ρ1 => rw [e1] at h; exact h
  | ok f ρ1 =>
    rw [e1] at h
    cases f with
    | rt d => exact h
    | nx => exact fun σ1 F1 H1 fp1 r1 x1 q1 => h2 ρ1 σ1 F1 H1 fp1 D r1 (OkS.ext x1 q1 h)
theorem svs_cons (h1 : SV X ks W rsh fx st t m) (h2 : SVs X ks W rsh fx sts u n) : SVs X ks W rsh fx (st :: sts) (tSeq t u) (mSeq m n) := ⟨pss_cons h1.pe h2.pe, snd_seq h1.sd h2.sd⟩
theorem svs_one (h1 : SV X ks W rsh fx st t m) : SVs X ks W rsh fx [st] t m := ⟨pss_one h1.pe, h1.sd⟩
def mDrop (m : ME) : MS := fun ρ => (m ρ).bind fun _ ρ1 => .ok .nx ρ1
theorem sv_expr (h : EV X ks W e .leaf te me) (hs : swapsWith e none pos.line X.env = pure false := by rfl) : SV X ks W rsh fx (.Expr e pos) (tDrop te) (mDrop me) := by
  refine ⟨ps_expr h.pe hs, fun ρ σ F H fp D r hok => ?_⟩
  refine h.sd.go r (Ok := OkS (bd X ks W) rsh fx F H fp σ D) hok (fun z => z) (fun _ _ z => z.x) fun d ρ1 v F1 H1 fp1 h1 r1 x1 p1 => ?_
  exact h1 σ F1 H1 fp1 r1 x1 rfl
/-- a docstring is dropped by the link; return -/
def mRet (m : ME) : MS := fun ρ => (m ρ).bind fun d ρ1 => .ok (.rt d) ρ1
theorem sv_ret (h : EV X ks W e rsh te me) : SV X ks W rsh fx (.Return (some e) pos) (tRet te) (mRet me) := by
  refine ⟨ps_ret h.pe, fun ρ σ F H fp D r hok => h.sd ρ σ F H fp D.rt r ?_⟩
  unfold mRet at hok
  cases em : me ρ with
  | no => rw [em] at hok; exact hok
  | ex x ρ1 => rw [em] at hok; exact OkS.x hok
  | ok d ρ1 => rw [em] at hok; exact fun v F' H' fp' fv r' nd x o => hok v σ F' H' fp' fv r' nd x rfl o
def mIfS (c : MT) (m n : MS) : MS := fun ρ => (c ρ).bind fun k ρ1 => if k = true then m ρ1 else n ρ1
theorem sv_if {x : Expr} {xs ys : List Stmt} {tA : TT} {mt : MT} (hx : ET X ks W x tA mt) (h1 : SVs X ks W rsh fx xs t m) (h2 : SVs X ks W rsh fx ys u n) : SV X ks W rsh fx (.If x xs ys pos) (tIfS tA t u) (mIfS mt m n) := by
  refine ⟨ps_if hx.pe h1.pe h2.pe, fun ρ σ F H fp D r hok => ?_⟩
  refine hx.sd.go r (Ok := OkS (bd X ks W) rsh fx F H fp σ D) hok (fun z => z) (fun _ _ z => z.x) fun k ρ1 F1 H1 fp1 q1 r1 x1 => ?_
  cases k with
  | true => rw [if_pos rfl] at q1 ⊢; exact h1.sd ρ1 σ F1 H1 fp1 D r1 (q1.ext x1 rfl)
  | false => rw [if_neg Bool.false_ne_true] at q1 ⊢; exact h2.sd ρ1 σ F1 H1 fp1 D r1 (q1.ext x1 rfl)

/-! ### a slot stored -/
theorem Rel.store {K : PySem.W.Frag} {F H : Hp} {ρ : DEnv} {σ : St} {fp fv : List Addr} {v : V} {d : D} {i : Nat} (r : Rel K ks F H ρ σ fp) (o : OR K F H sh v d fv) (nd : (fp ++ fv).Nodup) (hk : ks[i]? = some sh) :
    ∃ gp, Rel K ks F H (ρ.set i (some d)) (σ.set i (some v)) gp ∧ ∀ y ∈ gp, y ∈ fp ++ fv := by
  obtain ⟨g, w, sl⟩ := r.sl.wipe1 i
  have l1 := r.sl.lens
  have hi : i < σ.length := by
    rw [← l1.2, ← l1.1]
    exact (List.getElem?_eq_some_iff.mp hk).1
  have w2 := w.setV i (some v)
  obtain ⟨gp, w3, p⟩ := RelL.join o w2 hk (by rw [List.getElem?_set_self hi])
  refine ⟨gp, ⟨r.sub, ?_, w3⟩, fun y m => ?_⟩
  · refine p.nodup_iff.mpr ?_
    have n2 := List.nodup_append.mp nd
    refine List.nodup_append.mpr ⟨n2.2.1, n2.1.sublist sl, fun y m1 z m2 e => ?_⟩
    exact n2.2.2 z (sl.subset m2) y m1 e.symm
  · rcases List.mem_append.mp (p.subset m) with q | q
    · exact List.mem_append_right _ q
    · exact List.mem_append_left _ (sl.subset q)
theorem take_set {σ : St} {i : Nat} {x : Option V} (h : fx ≤ i) : (σ.set i x).take fx = σ.take fx := by
  rw [List.take_set_of_le] <;> exact h
def mSet (i : Nat) (m : ME) : MS := fun ρ => (m ρ).bind fun d ρ1 => .ok .nx (ρ1.set i (some d))
theorem sv_set {i : Nat} {x : Str} {pos' : Pos} (hk : ks[i]? = some sh) (hf : fx ≤ i) (hN : X.N.Nodup) (hi : X.N[i]? = some x) (hx : Loc X.env.scope x) (h : EV X ks W e sh te me) (hs : swapsWith e (some (.Name x pos')) pos.line X.env = pure false := by rfl)
    (hff : X.fn x = true ∨ X.env.scope.names.lookup x = some .local := by first | exact .inl rfl | exact .inr rfl | assumption) : SV X ks W rsh fx (.Assign [.Name x pos'] e pos) (tAsg te (gName i)) (mSet i me) := by
  refine ⟨ps_set hN hi hx h.pe hs hff, fun ρ σ F H fp D r hok => h.sd ρ σ F H fp _ r ?_⟩
  unfold mSet at hok
  cases em : me ρ with
  | no => rw [em] at hok; exact hok
  | ex y ρ1 => rw [em] at hok; exact OkS.x hok
  | ok d ρ1 =>
    rw [em] at hok
    intro v F' H' fp' fv r' nd x' o
    obtain ⟨gp, r2, sb⟩ := r'.store o nd hk
    exact hok (σ.set i (some v)) F' H' gp r2 (x'.sub sb) (take_set hf)
end
end VL
/-! V7: methods that change an owned slot, stores into it, unpacking, loops. -/
namespace VL
open PySem PySem.Spec L2

/-- the data of a slot -/
def own (ρ : DEnv) (i : Nat) : Option D := (ρ[i]?).bind id
/-- a change of the owned list at p: by the data -/
def MtL (K : PySem.W.Frag) (r : V → List V → Hp → VK → Prop) (f : List D → List D → Option (D × List D)) : Prop :=
  ∀ F H p vs ds xs es z ds' Q, Sub F H → F p = none → H p = some (.lst vs) → Reps K F vs ds → Reps K F xs es → f ds es = some (z, ds') → (∀ v vs', Reps K F vs' ds' → Rep K F v z → Q v (upd H p (.lst vs'))) → r (.ref p) xs H Q
section
variable {K : PySem.W.Frag} {ks : List Sh} {F H : Hp} {ρ : DEnv} {σ : St} {fp : List Addr}
/-- an owned list of a slot, and what stands behind a change of it -/
theorem Rel.ownL {i : Nat} {ds : List D} (r : Rel K ks F H ρ σ fp) (hk : ks[i]? = some (.lst .leaf)) (e : own ρ i = some (.lst ds)) :
    ∃ p vs, σ[i]? = some (some (.ref p)) ∧ F p = none ∧ H p = some (.lst vs) ∧ Reps K F vs ds ∧ ∀ vs' ds', Reps K F vs' ds' → ∃ gp, Rel K ks F (upd H p (.lst vs')) (ρ.set i (some (.lst ds'))) σ gp ∧ Ext F H fp F (upd H p (.lst vs')) gp := by
  obtain ⟨v, f, g, s1, o1, sl, pm⟩ := r.sl.split hk (getE e)
  cases o1 with
  | @lst _ p vs _ fp' nF eH q =>
    obtain ⟨q1, rfl⟩ := q.leafE
    refine ⟨p, vs, s1, nF, eH, q1, fun vs' ds' q' => ?_⟩
    have nd : (p :: g).Nodup := (pm.nodup_iff).mp r.nd
    have pg : p ∉ g := (List.nodup_cons.mp nd).1
    have pin : p ∈ fp := pm.symm.subset (List.mem_cons_self ..)
    have sl2 : RelL K F (upd H p (.lst vs')) ks (ρ.set i none) σ g := sl.frame (fun _ _ x => x) fun a m => ⟨(sl.own a m).1, upd_ne fun z => pg (z ▸ m)⟩
    obtain ⟨gp, r2, p2⟩ := RelL.join (s := .lst .leaf) (f := [p]) (d := .lst ds') (.lst nF upd_same (ORs.ofReps q')) sl2 hk s1
    refine ⟨gp, ⟨sub_updH r.sub nF (by intro _ z; cases z), p2.nodup_iff.mpr nd, r2⟩, ⟨fun a o x n => ?_, fun a m => .inl (pm.symm.subset (p2.subset m))⟩⟩
    · exact ⟨(upd_ne fun (z : a = p) => n (by rw [z]; exact pin)).trans x, rfl⟩
theorem Rel.ownK {i : Nat} {ds : List (Key × D)} (r : Rel K ks F H ρ σ fp) (hk : ks[i]? = some (.dic .leaf)) (e : own ρ i = some (.dK ds)) :
    ∃ p kvs, σ[i]? = some (some (.ref p)) ∧ F p = none ∧ H p = some (.dK kvs) ∧ kvs.map Prod.fst = ds.map Prod.fst ∧ Reps K F (kvs.map Prod.snd) (ds.map Prod.snd) ∧
      ∀ (kvs' : List (Key × V)) (ds' : List (Key × D)), kvs'.map Prod.fst = ds'.map Prod.fst → Reps K F (kvs'.map Prod.snd) (ds'.map Prod.snd) → ∃ gp, Rel K ks F (upd H p (.dK kvs')) (ρ.set i (some (.dK ds'))) σ gp ∧ Ext F H fp F (upd H p (.dK kvs')) gp := by
  obtain ⟨v, f, g, s1, o1, sl, pm⟩ := r.sl.split hk (getE e)
  cases o1 with
  | @dK _ p kvs _ fp' nF eH ek q =>
    obtain ⟨q1, rfl⟩ := q.leafE
    refine ⟨p, kvs, s1, nF, eH, ek, q1, fun kvs' ds' ek' q' => ?_⟩
    have nd : (p :: g).Nodup := (pm.nodup_iff).mp r.nd
    have pg : p ∉ g := (List.nodup_cons.mp nd).1
    have pin : p ∈ fp := pm.symm.subset (List.mem_cons_self ..)
    have sl2 : RelL K F (upd H p (.dK kvs')) ks (ρ.set i none) σ g := sl.frame (fun _ _ x => x) fun a m => ⟨(sl.own a m).1, upd_ne fun z => pg (z ▸ m)⟩
    obtain ⟨gp, r2, p2⟩ := RelL.join (s := .dic .leaf) (f := [p]) (d := .dK ds') (.dK nF upd_same ek' (ORs.ofReps q')) sl2 hk s1
    refine ⟨gp, ⟨sub_updH r.sub nF (by intro _ z; cases z), p2.nodup_iff.mpr nd, r2⟩, ⟨fun a o x n => ?_, fun a m => .inl (pm.symm.subset (p2.subset m))⟩⟩
    · exact ⟨(upd_ne fun (z : a = p) => n (by rw [z]; exact pin)).trans x, rfl⟩
theorem Rel.ownT {i : Nat} {ds : List (List Key × D)} (r : Rel K ks F H ρ σ fp) (hk : ks[i]? = some (.dic .leaf)) (e : own ρ i = some (.dT ds)) :
    ∃ p kvs, σ[i]? = some (some (.ref p)) ∧ F p = none ∧ H p = some (.dT kvs) ∧ kvs.map Prod.fst = ds.map Prod.fst ∧ Reps K F (kvs.map Prod.snd) (ds.map Prod.snd) ∧
      ∀ (kvs' : List (List Key × V)) (ds' : List (List Key × D)), kvs'.map Prod.fst = ds'.map Prod.fst → Reps K F (kvs'.map Prod.snd) (ds'.map Prod.snd) → ∃ gp, Rel K ks F (upd H p (.dT kvs')) (ρ.set i (some (.dT ds'))) σ gp ∧ Ext F H fp F (upd H p (.dT kvs')) gp := by
  obtain ⟨v, f, g, s1, o1, sl, pm⟩ := r.sl.split hk (getE e)
  cases o1 with
  | @dT _ p kvs _ fp' nF eH ek q =>
    obtain ⟨q1, rfl⟩ := q.leafE
    refine ⟨p, kvs, s1, nF, eH, ek, q1, fun kvs' ds' ek' q' => ?_⟩
    have nd : (p :: g).Nodup := (pm.nodup_iff).mp r.nd
    have pg : p ∉ g := (List.nodup_cons.mp nd).1
    have pin : p ∈ fp := pm.symm.subset (List.mem_cons_self ..)
    have sl2 : RelL K F (upd H p (.dT kvs')) ks (ρ.set i none) σ g := sl.frame (fun _ _ x => x) fun a m => ⟨(sl.own a m).1, upd_ne fun z => pg (z ▸ m)⟩
    obtain ⟨gp, r2, p2⟩ := RelL.join (s := .dic .leaf) (f := [p]) (d := .dT ds') (.dT nF upd_same ek' (ORs.ofReps q')) sl2 hk s1
    refine ⟨gp, ⟨sub_updH r.sub nF (by intro _ z; cases z), p2.nodup_iff.mpr nd, r2⟩, ⟨fun a o x n => ?_, fun a m => .inl (pm.symm.subset (p2.subset m))⟩⟩
    · exact ⟨(upd_ne fun (z : a = p) => n (by rw [z]; exact pin)).trans x, rfl⟩
end
/-- x.method(args), x an owned list at slot i -/
def mMtL (i : Nat) (f : List D → List D → Option (D × List D)) (args : MA) : ME := fun ρ => match own ρ i with
  | some (.lst _) => (args ρ).bind fun es ρ1 => (match own ρ1 i with
    | some (.lst ds) => (match f ds es with | some (z, ds') => .ok z (ρ1.set i (some (.lst ds'))) | none => .no)
    | _ => .no)
  | _ => .no
section
variable {X : Cx} {ks : List Sh} {W : WX} {e : Expr} {es : List Expr} {i : Nat} {x name : Str} {id : String} {p apos cpos : Pos} {r : V → List V → Hp → VK → Prop} {f : List D → List D → Option (D × List D)}
theorem snd_mtL {b : Bd} {t : TA} {args : MA} (hk : b.ks[i]? = some (.lst .leaf)) (hr : MtL b.K r f) (ha : SndA b t args) : SndE b .leaf (tBM b.K "list" r (tVar i) t) (mMtL i f args) := by
  intro ρ σ F H fp Q r0 hok
  unfold mMtL at hok
  split at hok
  · rename_i ds0 e0
    obtain ⟨p, vs, s1, nF, eH, q1, _⟩ := r0.ownL hk e0
    refine ⟨.ref p, s1, .inl ⟨rfl, _, .of eH⟩, ?_⟩
    refine ha.go r0 (Ok := OkE b .leaf F H fp σ Q) hok (fun z => z) (fun _ _ z => z) fun es ρ1 xs F1 H1 fp1 h1 r1 x1 p1 => ?_
    split at h1
    · rename_i ds e1
      split at h1
      · rename_i z ds' ef
        obtain ⟨p', vs', s2, nF', eH', q2, step⟩ := r1.ownL hk e1
        rw [s1] at s2
        cases s2
        refine hr F1 H1 p vs' ds xs es z ds' Q r1.sub nF' eH' q2 p1 ef fun v ws q3 rv => ?_
        obtain ⟨gp, r2, x2⟩ := step ws ds' q3
        exact (h1.ext x1) v F1 _ gp [] r2 (by rw [List.append_nil]; exact r2.nd) (by rw [List.append_nil]; exact x2) (.leaf rv)
      · exact (show False from h1).elim
    · exact (show False from h1).elim
  · exact (show False from hok).elim
theorem ev_mtL {t : TA} {args : MA} (i : Nat) (slot : Slot "list" name id) (hty : typeOf (.builtin id) = pure (.type "method_descriptor")) (rule : MtM X id r) (hr : MtL X.K r f) (ha : EA X ks W (e :: es) t args) (hk : ks[i]? = some (.lst .leaf) := by rfl) (hN : X.N[i]? = some x := by rfl)
    (hv : Vis X.env.scope x := by first | exact Or.inl rfl | exact Or.inr (Or.inl rfl) | exact Or.inr (Or.inr rfl)) (hd : (x == ("__debug__" : Str)) = false := by decide) (hcd : (x == ("__classdict__" : Str)) = false := by decide)
    (hbase : attributeBase (.Name x p) name X.env (eval (.Name x p) X.env) = eval (.Name x p) X.env := by rfl)
    (hfew : ((backTo cpos (starEach (e :: es) X.env)).all (fun x => !x.1) && (backToKw cpos (keywordEach [] X.env)).all (fun x => x.1.isSome)
      && decide ((e :: es).length + ([] : List Keyword).length + (if ([] : List Keyword).isEmpty then 0 else 1) < 30)) = true := by rfl)
    (hline : (apos.endLine == cpos.line) = true := by rfl) (hs : starEach (e :: es) X.env = (false, eval e X.env) :: starEach es X.env := by rfl) (hplain : (backTo cpos (starEach es X.env)).any (·.1) = false := by rfl) :
    EV X ks W (.Call (.Attribute (.Name x p) name apos) (e :: es) [] cpos) .leaf (tBM X.K "list" r (tVar i) t) (mMtL i f args) :=
  ⟨pe_bm PySem.F.plainAttrs_list slot hty rule (pe_var hN hv hd hcd) ha.pe hbase hfew hline hs hplain, snd_mtL (b := bd X ks W) hk hr ha.sd⟩
end
section
variable {K : PySem.W.Frag}
def appendD : List D → List D → Option (D × List D)
  | ds, [d] => if ds.length < 16777216 then some (.non, ds ++ [d]) else none
  | _, _ => none
theorem m_append : MtL K rAppend appendD := by
  intro F H p vs ds xs es z ds' Q sm nF eH q1 q2 hf k
  unfold appendD at hf
  split at hf
  · rename_i d
    cases q2 with
    | cons h t =>
      cases t
      split at hf
      · rename_i c
        cases hf
        exact ⟨p, vs, _, rfl, rfl, eH, by rw [q1.length, sizeLine_eq]; exact c, k .non _ (q1.append (.cons h .nil)) .non⟩
      · cases hf
  · cases hf
end

/-! ### d[k] = v, xs[i] = v -/
def putD (d k v : D) : Option D := match d with
  | .dK kvs => if kvs.length < 16777216 then (keyK k).bind fun q => some (.dK (put kvs q v)) else none
  | .dT kvs => if kvs.length < 16777216 then (keyT k).bind fun q => some (.dT (put kvs q v)) else none
  | _ => none
def mPut (i : Nat) (mk mv : ME) : MS := fun ρ => (mv ρ).bind fun v ρ1 => (R.of (own ρ1 i) ρ1).bind fun _ _ => (mk ρ1).bind fun k ρ2 => (R.of ((own ρ2 i).bind fun d => putD d k v) ρ2).bind fun d' ρ3 => .ok .nx (ρ3.set i (some d'))
section
variable {X : Cx} {ks : List Sh} {W : WX} {rsh : Sh} {fx : Nat} {e c value : Expr} {i : Nat} {x : Str} {p pos pos' : Pos} {te tc tv : TE} {me mc mv : ME}
theorem sv_dput (i : Nat) (hu : X.A.units + 1 < cLine) (hc : EV X ks W c .leaf tc mc) (hv : EV X ks W value .leaf tv mv) (hk : ks[i]? = some (.dic .leaf) := by rfl) (hN : X.N[i]? = some x := by rfl)
    (hvi : Vis X.env.scope x := by first | exact Or.inl rfl | exact Or.inr (Or.inl rfl) | exact Or.inr (Or.inr rfl)) (hd : (x == ("__debug__" : Str)) = false := by decide) (hcd : (x == ("__classdict__" : Str)) = false := by decide)
    (hs : swapsWith value (some (.Subscript (.Name x p) c pos')) pos.line X.env = pure false := by rfl) : SV X ks W rsh fx (.Assign [.Subscript (.Name x p) c pos'] value pos) (sDPut (tVar i) tc tv) (mPut i mc mv) := by
  refine ⟨ps_dput hu (pe_var hN hvi hd hcd) hc.pe hv.pe hs, fun ρ σ F H fp D r hok => ?_⟩
  unfold mPut at hok
  refine hv.sd.go r (Ok := OkS (bd X ks W) rsh fx F H fp σ D) hok (fun z => z) (fun _ _ z => z.x) fun w ρ1 v F1 H1 fp1 h1 r1 x1 p1 => ?_
  cases e1 : own ρ1 i with
  | none => rw [e1] at h1; exact (show False from h1).elim
  | some d1 =>
    rw [e1] at h1
    obtain ⟨v0, f0, g0, s1, o1, _, _⟩ := r1.sl.split hk (getE e1)
    refine ⟨v0, s1, ?_⟩
    refine hc.sd.go r1 (Ok := OkS (bd X ks W) rsh fx F1 H1 fp1 σ D) (h1.ext x1 rfl) (fun z => z) (fun _ _ z => z.x) fun k ρ2 u F2 H2 fp2 h2 r2 x2 p2 => ?_
    have p1' := p1.mono (r1.same x2)
    cases e2 : own ρ2 i with
    | none => rw [e2] at h2; exact (show False from h2).elim
    | some d2 =>
      cases e3 : putD d2 k w with
      | none => rw [e2, Option.bind_some, e3] at h2; exact (show False from h2).elim
      | some d3 =>
        rw [e2, Option.bind_some, e3] at h2
        unfold putD at e3
        split at e3
        · rename_i kvs
          split at e3
          · rename_i cl
            cases e4 : keyK k with
            | none => rw [e4] at e3; cases e3
            | some q =>
              rw [e4] at e3
              cases e3
              obtain ⟨a, kv, s2, nF, eH, ek, rk, step⟩ := r2.ownK hk e2
              rw [s1] at s2
              cases s2
              obtain ⟨gp, r3, x3⟩ := step _ _ (put_keys q v w ek) (put_reps q p1' ek rk)
              refine ⟨a, _, rfl, ?_, (h2.ext x2 rfl) σ F2 _ gp r3 x3 rfl⟩
              rw [keyKE (F := F2) (H := F2) (.rep p2) e4]
              exact DPut.k eH (by rw [put_len q v w ek, sizeLine_eq]; exact cl)
          · cases e3
        · rename_i kvs
          split at e3
          · rename_i cl
            cases e4 : keyT k with
            | none => rw [e4] at e3; cases e3
            | some q =>
              rw [e4] at e3
              cases e3
              obtain ⟨a, kv, s2, nF, eH, ek, rk, step⟩ := r2.ownT hk e2
              rw [s1] at s2
              cases s2
              obtain ⟨gp, r3, x3⟩ := step _ _ (put_keys q v w ek) (put_reps q p1' ek rk)
              obtain ⟨bb, b1, b2⟩ := keyTE r2.sub (.rep p2) e4
              refine ⟨a, _, rfl, ?_, (h2.ext x2 rfl) σ F2 _ gp r3 x3 rfl⟩
              rw [b1]
              exact DPut.t eH b2 (by rw [put_len q v w ek, sizeLine_eq]; exact cl)
          · cases e3
        · cases e3
end
end VL
/-! V8: what is walked, targets, for, while, comprehensions. -/
namespace VL
open PySem PySem.Spec L2

/-- the iterator J yields the data ds, whatever F grows to -/
def Walks (K : PySem.W.Frag) (J : It) (ds : List D) (F0 : Hp) : Prop :=
  ∀ i F H, Same F0 F → Sub F H → (∀ d, ds[i]? = some d → J.go i H ∧ ∀ x H', J.yld i H x H' → ∃ F', Alc F H F' H' ∧ Rep K F' x d) ∧ (ds.length ≤ i → J.stop i H)
structure IV (X : Cx) (ks : List Sh) (W : WX) (tg e : Expr) (wi : TI) (m : MA) : Prop where
  pe : PI X tg e wi
  sd : ∀ ρ σ F H fp (Q : It → Hp → Prop) {α : Type} (Ok : R α → Prop) (f : List D → DEnv → R α), Rel X.K ks F H ρ σ fp → Ok ((m ρ).bind f) → ¬ Ok .no → (∀ e ρ1, Ok (.ex e ρ1) → OkX (bd X ks W) F H fp σ e ρ1) →
    (∀ ds ρ1 J F1 H1 fp1, Ok (f ds ρ1) → Rel X.K ks F1 H1 ρ1 σ fp1 → Ext F H fp F1 H1 fp1 → Walks X.K J ds F1 → Q J H1) → wi σ H Q
def rangeD (lo : Int) (n : Nat) : List D := (List.range n).map fun i => .int (lo + (i : Nat))
theorem walks_rng {K : PySem.W.Frag} {F0 : Hp} {lo : Int} {n : Nat} : Walks K (Itr lo n) (rangeD lo n) F0 := by
  intro i F H s1 s2
  have hl : (rangeD lo n).length = n := by simp [rangeD]
  refine ⟨fun d hd => ?_, fun h => by rw [hl] at h; exact h⟩
  have hi : i < n := by
    have := (List.getElem?_eq_some_iff.mp hd).1
    rw [hl] at this; exact this
  have e : d = .int (lo + (i : Nat)) := by
    simp [rangeD, hi] at hd
    exact hd.symm
  subst e
  exact ⟨hi, fun x H' ⟨h1, h2⟩ => by subst h1; subst h2; exact ⟨F, .refl s2, .int _⟩⟩
def signs (x : Str) : List D := x.cps.toList.map fun c => .str ⟨#[c]⟩
section
variable {X : Cx} {ks : List Sh} {W : WX} {tg e a c : Expr} {te tc : TE} {me mc : ME} {p pos : Pos}
def asL : D → DEnv → R (List D)
  | .lst ds, ρ => .ok ds ρ
  | _, _ => .no
def asT : D → DEnv → R (List D)
  | .tup ds, ρ => .ok ds ρ
  | .key ks, ρ => .ok (ks.map keyD) ρ
  | _, _ => .no
def asS : D → DEnv → R (List D)
  | .str x, ρ => .ok (signs x) ρ
  | _, _ => .no
def mRng1 : List D → DEnv → R (List D)
  | [.int j], ρ => if -1000000 ≤ j ∧ j ≤ 1000000 then .ok (rangeD 0 j.toNat) ρ else .no
  | _, _ => .no
def mRng2 : List D → DEnv → R (List D)
  | [.int i, .int j], ρ => if -1000000 ≤ i ∧ i ≤ 1000000 ∧ -1000000 ≤ j ∧ j ≤ 1000000 then .ok (rangeD i (j - i).toNat) ρ else .no
  | _, _ => .no
theorem iv_rng1 {t : TA} {ma : MA} (ha : EA X ks W [a] t ma) (hm : X.mg "range" = none) (hg : Gl X "range" := by rfl) (hs : starEach [a] X.env = [(false, eval a X.env)] := by rfl) : IV X ks W tg (.Call (.Name "range" p) [a] [] pos) (iRng1 t) (fun ρ => (ma ρ).bind mRng1) := by
  refine ⟨pi_range1 hg hm ha.pe hs, fun ρ σ F H fp Q α Ok f r hok hn hx k => ?_⟩
  rw [bind_assoc] at hok
  refine ha.sd.go r (Ok := Ok) hok hn hx fun ds ρ1 vs F1 H1 fp1 h1 r1 x1 p1 => ?_
  unfold mRng1 at h1
  split at h1
  · rename_i j
    cases p1 with
    | cons q t =>
      cases q
      cases t
      split at h1
      · exact ⟨j, rfl, by omega, by omega, k _ ρ1 _ F1 H1 fp1 h1 r1 x1 walks_rng⟩
      · exact (hn h1).elim
  · exact (hn h1).elim
end

/-! ### targets -/
def Tk (fx : Nat) : St → St → Prop := fun σ' σ => σ'.take fx = σ.take fx
theorem tk_set {fx i : Nat} (h : fx ≤ i) (σ : St) (x : Option V) : Tk fx (σ.set i x) σ := take_set h
structure GV (X : Cx) (ks : List Sh) (T : St → St → Prop) (tg : Expr) (g : TG) (m : D → DEnv → Option DEnv) : Prop where
  pe : PG X tg g
  sd : ∀ d v ρ σ F H fp ρ' (Q : St → Hp → Prop), Rel X.K ks F H ρ σ fp → Rep X.K F v d → m d ρ = some ρ' → (∀ σ' gp, Rel X.K ks F H ρ' σ' gp → (∀ y ∈ gp, y ∈ fp) → T σ' σ → Q σ' H) → g v σ H Q
def kName (i : Nat) : D → DEnv → Option DEnv := fun d ρ => some (ρ.set i (some d))
def kNil : List D → DEnv → Option DEnv
  | [], ρ => some ρ
  | _, _ => none
def kCons (m : D → DEnv → Option DEnv) (n : List D → DEnv → Option DEnv) : List D → DEnv → Option DEnv
  | d :: ds, ρ => (m d ρ).bind fun ρ1 => n ds ρ1
  | [], _ => none
def kTup' (k : Nat) (n : List D → DEnv → Option DEnv) : D → DEnv → Option DEnv
  | .tup ds, ρ => if ds.length = k then n ds ρ else none
  | .key ks, ρ => if ks.length = k then n (ks.map keyD) ρ else none
  | _, _ => none
section
variable {X : Cx} {ks : List Sh} {T : St → St → Prop} {tg : Expr} {ts : List Expr} {g : TG} {gs : TGs} {pos : Pos}
theorem gv_name {i : Nat} {x : Str} (hN : X.N.Nodup) (hi : X.N[i]? = some x) (hx : Loc X.env.scope x) (hk : ks[i]? = some .leaf) (hf : ∀ σ x, T (σ.set i x) σ) (hff : X.fn x = true ∨ X.env.scope.names.lookup x = some .local := by first | exact .inl rfl | exact .inr rfl | assumption) : GV X ks T (.Name x pos) (gName i) (kName i) := by
  refine ⟨pg_name hN hi hx hff, fun d v ρ σ F H fp ρ' Q r rp e k => ?_⟩
  cases e
  obtain ⟨gp, r2, sb⟩ := r.store (fv := []) (.leaf rp) (by rw [List.append_nil]; exact r.nd) hk
  exact k _ gp r2 (fun y m => by have := sb y m; rwa [List.append_nil] at this) (hf _ _)
end
/-! ### target = value -/
def mAsg (k : D → DEnv → Option DEnv) (m : ME) : MS := fun ρ => (m ρ).bind fun d ρ1 => match k d ρ1 with | some ρ2 => .ok .nx ρ2 | none => .no
section
variable {X : Cx} {ks : List Sh} {W : WX} {rsh : Sh} {fx : Nat} {tg e : Expr} {te : TE} {me : ME} {g : TG} {pos : Pos} {k : D → DEnv → Option DEnv}
end

/-! ### for -/
def mFor (k : D → DEnv → Option DEnv) (body : MS) : List D → MS
  | [], ρ => .ok .nx ρ
  | d :: ds, ρ => match k d ρ with
    | none => .no
    | some ρ1 => (body ρ1).bind fun f ρ2 => match f with | .nx => mFor k body ds ρ2 | .rt z => .ok (.rt z) ρ2
section
variable {X : Cx} {ks : List Sh} {W : WX} {rsh : Sh} {fx : Nat} {tg iter c : Expr} {body : List Stmt} {wi : TI} {g : TG} {tb : TS} {ma : MA} {k : D → DEnv → Option DEnv} {mb : MS} {pos : Pos}
theorem sv_for (hp : PassesOwn (model X.prog X.w) X.A X.env X.xe) (hc : X.calm = true) (hi : IV X ks W tg iter wi ma) (hg : GV X ks (Tk fx) tg g k) (hb : SVs X ks W rsh fx body tb mb)
    (hs : ∀ x, foldedSetIterable iter X.env x = pure x := by intro _; rfl) : SV X ks W rsh fx (.For tg iter body [] pos) (tFor wi g tb) (fun ρ => (ma ρ).bind fun ds ρ1 => mFor k mb ds ρ1) := by
  refine ⟨ps_for hp hc hi.pe hg.pe hb.pe hs, fun ρ σ F H fp D r hok => ?_⟩
  refine hi.sd ρ σ F H fp _ (OkS (bd X ks W) rsh fx F H fp σ D) _ r hok (fun z => z) (fun _ _ z => z.x) fun ds ρ1 J F1 H1 fp1 h1 r1 x1 wk => ?_
  let Wv : Nat → Nat → St → Hp → Prop := fun i m σ' H' => m = ds.length - i ∧ i ≤ ds.length ∧ ∃ ρ' F' gp, Rel X.K ks F' H' ρ' σ' gp ∧ Same F1 F' ∧ OkS (bd X ks W) rsh fx F' H' gp σ' D (mFor k mb (ds.drop i) ρ')
  refine ⟨Wv, ⟨ds.length, by simp, Nat.zero_le _, ρ1, F1, fp1, r1, fun _ _ z => z, by rw [List.drop_zero]; exact h1.ext x1 rfl⟩, ?_⟩
  rintro i m σ' H' ⟨hm, hi', ρ', F', gp, r', s', ok'⟩
  obtain ⟨w1, w2⟩ := wk i F' H' s' r'.sub
  by_cases hl : i < ds.length
  · refine .inr ?_
    have ed : ds[i]? = some ds[i] := List.getElem?_eq_getElem hl
    have edr : ds.drop i = ds[i] :: ds.drop (i + 1) := List.drop_eq_getElem_cons hl
    rw [edr] at ok'
    obtain ⟨go, yl⟩ := w1 _ ed
    refine ⟨go, fun σ2 H2 => ∃ m', m' < m ∧ Wv (i + 1) m' σ2 H2, fun σ2 H2 q => q, fun x H2 yy => ?_⟩
    obtain ⟨F2, al, rx⟩ := yl x H2 yy
    obtain ⟨r2, _, x2⟩ := al.rel (fv := []) r' (fun _ m => by simp at m) List.nodup_nil
    rw [List.append_nil] at x2
    have s2 : Same F' F2 := al.same r'.sub
    unfold mFor at ok'
    cases e1 : k ds[i] ρ' with
    | none => rw [e1] at ok'; exact (show False from ok').elim
    | some ρ3 =>
      rw [e1] at ok'
      dsimp only at ok'
      refine hg.sd _ x ρ' σ' F2 H2 gp ρ3 _ r2 rx e1 fun σ3 g3 r3 s3 q3 => ?_
      have x3 : Ext F' H' gp F2 H2 g3 := x2.sub s3
      have ok3 := OkS.ext x3 q3 ok'
      refine hb.sd ρ3 σ3 F2 H2 g3 _ r3 ?_
      cases e2 : mb ρ3 with
      | no => rw [e2] at ok3; exact ok3
      | ex y ρ4 => rw [e2] at ok3; exact ok3
      | ok f ρ4 =>
        rw [e2] at ok3
        cases f with
        | rt z => exact ok3
        | nx =>
          intro σ4 F4 H4 g4 r4 x4 q4
          refine ⟨ds.length - (i + 1), by omega, rfl, hl, ρ4, F4, g4, r4, fun a o z => r3.same x4 a o (s2 a o (s' a o z)), ?_⟩
          exact OkS.ext x4 q4 ok3
  · have e : i = ds.length := by omega
    refine .inl ⟨w2 (by omega), ?_⟩
    rw [e, List.drop_length] at ok'
    exact ok' σ' F' H' gp r' .refl rfl

/-! ### while -/
end
end VL
/-! V9: comprehensions. -/
namespace VL
open PySem PySem.Spec L2

def R.bindN {α β : Type} (r : R α) (f : α → DEnv → R β) : R β := match r with
  | .ok a ρ => f a ρ
  | _ => .no
@[simp] theorem R.bindN_ok {α β : Type} (a : α) (ρ : DEnv) (f : α → DEnv → R β) : (R.ok a ρ).bindN f = f a ρ := rfl
def wipeD (ρ : DEnv) : List Nat → DEnv
  | [] => ρ
  | v :: vs => (wipeD ρ vs).set v none
def fillD (ρ1 : DEnv) : List Nat → DEnv → DEnv
  | [], ρ => ρ
  | v :: vs, ρ => fillD ρ1 vs (ρ.set v ((ρ1[v]?).bind id))
def mLcGo (k : D → DEnv → Option DEnv) (test : MT) (elt : ME) (vs : List Nat) : List D → List D → DEnv → R (List D)
  | [], acc, ρ => .ok acc ρ
  | d :: ds, acc, ρ => match k d (wipeD ρ vs) with
    | none => .no
    | some ρ1 => (test ρ1).bindN fun b ρ2 => if b = true then (elt ρ2).bindN fun y ρ3 => (if acc.length < 16777216 then mLcGo k test elt vs ds (acc ++ [y]) ρ3 else .no) else mLcGo k test elt vs ds acc ρ2
def mLc (ma : MA) (k : D → DEnv → Option DEnv) (test : MT) (elt : ME) (vs : List Nat) : ME := fun ρ => (ma ρ).bind fun ds ρ1 => (mLcGo k test elt vs ds [] ρ1).bind fun ys ρ2 => .ok (.lst ys) (fillD ρ1 vs (wipeD ρ2 vs))
section
variable {K : PySem.W.Frag} {ks : List Sh} {F H F' H' : Hp}
theorem RelL.wipes {ρ : DEnv} {σ : St} {fp : List Addr} (r : RelL K F H ks ρ σ fp) : ∀ vs : List Nat, ∃ g, RelL K F H ks (wipeD ρ vs) (wipe σ vs) g ∧ g.Sublist fp
  | [] => ⟨fp, r, .refl _⟩
  | v :: vs => by
    obtain ⟨g, r1, s1⟩ := RelL.wipes r vs
    obtain ⟨g2, r2, s2⟩ := r1.wipe1 v
    exact ⟨g2, r2.setV v none, s2.trans s1⟩
theorem Rel.wipes {ρ : DEnv} {σ : St} {fp : List Addr} (r : Rel K ks F H ρ σ fp) (vs : List Nat) : ∃ g, Rel K ks F H (wipeD ρ vs) (wipe σ vs) g ∧ ∀ y ∈ g, y ∈ fp := by
  obtain ⟨g, r1, s1⟩ := r.sl.wipes vs
  exact ⟨g, ⟨r.sub, r.nd.sublist s1, r1⟩, fun y m => s1.subset m⟩
theorem wipe_at {σ : St} {v : Nat} : ∀ {vs : List Nat}, v ∉ vs → (wipe σ vs)[v]? = σ[v]?
  | [], _ => rfl
  | u :: vs, h => by
    have h1 : v ≠ u := fun z => h (z ▸ List.mem_cons_self)
    have h2 : v ∉ vs := fun z => h (List.mem_cons_of_mem _ z)
    show ((wipe σ vs).set u none)[v]? = _
    rw [List.getElem?_set_ne (Ne.symm h1), wipe_at h2]
theorem set_none_idem (σ : St) (i : Nat) : (σ.set i none).set i none = σ.set i none := List.set_set ..
theorem wipe_none {σ : St} {v : Nat} : ∀ {vs : List Nat}, v ∈ vs → (wipe σ vs).set v none = wipe σ vs
  | u :: vs, h => by
    by_cases e : v = u
    · subst e; exact set_none_idem _ _
    · have h2 : v ∈ vs := (List.mem_cons.mp h).resolve_left e
      show ((wipe σ vs).set u none).set v none = (wipe σ vs).set u none
      rw [List.set_comm _ _ (Ne.symm e), wipe_none h2]
theorem wipe_sub (σ : St) (vs : List Nat) : ∀ {l : List Nat}, (∀ v ∈ l, v ∈ vs) → wipe (wipe σ vs) l = wipe σ vs
  | [], _ => rfl
  | u :: l, h => by
    show (wipe (wipe σ vs) l).set u none = _
    rw [wipe_sub σ vs fun v m => h v (List.mem_cons_of_mem _ m), wipe_none (h u List.mem_cons_self)]
theorem wipe_idem (σ : St) (vs : List Nat) : wipe (wipe σ vs) vs = wipe σ vs := wipe_sub σ vs fun _ m => m
theorem set_back {σ : St} {v : Nat} {x : Option V} (h : σ[v]? = some x) : (σ.set v none).set v x = σ := by
  rw [List.set_set]
  refine List.ext_getElem? fun j => ?_
  by_cases e : v = j
  · subst e
    rw [List.getElem?_set_self (List.getElem?_eq_some_iff.mp h).1, h]
  · rw [List.getElem?_set_ne e]
theorem Rel.fill {ρ1 : DEnv} {σ : St} {fp : List Addr} (r0 : Rel K ks F H ρ1 σ fp) (s : Same F F') : ∀ {vs : List Nat} {ρ : DEnv} {gp : List Addr}, vs.Nodup → (∀ v ∈ vs, ks[v]? = some .leaf) → Rel K ks F' H' ρ (wipe σ vs) gp → ∃ g, Rel K ks F' H' (fillD ρ1 vs ρ) σ g ∧ ∀ y ∈ g, y ∈ gp
  | [], ρ, gp, _, _, r => ⟨gp, r, fun _ m => m⟩
  | v :: vs, ρ, gp, nd, hk, r => by
    have nv : v ∉ vs := (List.nodup_cons.mp nd).1
    have hkv := hk v List.mem_cons_self
    have hv : v < σ.length := by
      rw [← r0.sl.lens.2, ← r0.sl.lens.1]
      exact (List.getElem?_eq_some_iff.mp hkv).1
    have ex : σ[v]? = some σ[v] := List.getElem?_eq_getElem hv
    have ew : (wipe σ vs)[v]? = some σ[v] := (wipe_at nv).trans ex
    cases e : (ρ1[v]?).bind id with
    | some d =>
      obtain ⟨w, f, g0, q1, q2, _, _⟩ := r0.sl.split hkv (getE e)
      obtain ⟨q3, _⟩ := q2.leafE
      have ew' : (wipe σ vs)[v]? = some (some w) := (wipe_at nv).trans q1
      obtain ⟨g1, r1, s1⟩ := r.store (fv := []) (v := w) (.leaf (q3.mono s)) (by rw [List.append_nil]; exact r.nd) hkv
      have r1' : Rel K ks F' H' (ρ.set v (some d)) (wipe σ vs) g1 := by
        have := r1
        rw [show (wipe σ (v :: vs)).set v (some w) = wipe σ vs from set_back ew'] at this
        exact this
      obtain ⟨g2, r2, s2⟩ := Rel.fill r0 s (List.nodup_cons.mp nd).2 (fun u m => hk u (List.mem_cons_of_mem _ m)) r1'
      refine ⟨g2, ?_, fun y m => by have := s1 y (s2 y m); rwa [List.append_nil] at this⟩
      unfold fillD
      rw [e]
      exact r2
    | none =>
      obtain ⟨g1, w1, sl⟩ := r.sl.wipe1 v
      have w2 := w1.setV v σ[v]
      rw [show (wipe σ (v :: vs)).set v σ[v] = wipe σ vs from set_back ew] at w2
      obtain ⟨g2, r2, s2⟩ := Rel.fill r0 s (List.nodup_cons.mp nd).2 (fun u m => hk u (List.mem_cons_of_mem _ m)) (gp := g1) ⟨r.sub, r.nd.sublist sl, w2⟩
      refine ⟨g2, ?_, fun y m => sl.subset (s2 y m)⟩
      unfold fillD
      rw [e]
      exact r2
end
abbrev W0 : WX := fun _ _ _ _ => False
theorem bindN_ok {α β : Type} {r : R α} {f : α → DEnv → R β} {g : R β → Prop} (h : g (r.bindN f)) (hn : ¬ g .no) : ∃ a ρ, r = .ok a ρ ∧ g (f a ρ) := by
  cases r with
  | ok a ρ => exact ⟨a, ρ, rfl, h⟩
  | ex e ρ => exact (hn h).elim
  | no => exact (hn h).elim
theorem snd_lc {b : Bd} {wi : TI} {g : TG} {tt : TT} {te : TE} {vs : List Nat} {ma : MA} {k : D → DEnv → Option DEnv} {mt : MT} {me : ME} (nd : vs.Nodup) (hk : ∀ v ∈ vs, b.ks[v]? = some .leaf)
    (hi : ∀ ρ σ F H fp (Q : It → Hp → Prop) (Ok : R D → Prop) (f : List D → DEnv → R D), Rel b.K b.ks F H ρ σ fp → Ok ((ma ρ).bind f) → ¬ Ok .no → (∀ e ρ1, Ok (.ex e ρ1) → OkX b F H fp σ e ρ1) →
      (∀ ds ρ1 J F1 H1 fp1, Ok (f ds ρ1) → Rel b.K b.ks F1 H1 ρ1 σ fp1 → Ext F H fp F1 H1 fp1 → Walks b.K J ds F1 → Q J H1) → wi σ H Q)
    (hg : ∀ d v ρ σ F H fp ρ' (Q : St → Hp → Prop), Rel b.K b.ks F H ρ σ fp → Rep b.K F v d → k d ρ = some ρ' → (∀ σ' gp, Rel b.K b.ks F H ρ' σ' gp → (∀ y ∈ gp, y ∈ fp) → wipe σ' vs = wipe σ vs → Q σ' H) → g v σ H Q)
    (ht : SndT ⟨b.K, b.mg, b.ks, W0⟩ tt mt) (he : SndE ⟨b.K, b.mg, b.ks, W0⟩ .leaf te me) : SndE b (.lst .leaf) (tLc wi g tt te vs) (mLc ma k mt me vs) := by
  intro ρ σ F H fp Q r hok
  refine hi ρ σ F H fp _ (OkE b (.lst .leaf) F H fp σ Q) _ r hok (fun z => z) (fun _ _ z => z) fun ds ρ1 J F1 H1 fp1 h1 r1 x1 wk => ?_
  intro Da nD
  have nDF : F1 Da = none := by
    cases e : F1 Da with
    | none => rfl
    | some y => have q := r1.sub _ _ e; rw [nD] at q; cases q
  have alc0 : Alc F1 H1 F1 (upd H1 Da (.lst [])) := upd_alcH r1.sub nD
  obtain ⟨r1', nd1', x1'⟩ := alc0.rel (fv := [Da]) r1 (fun x m => by simp at m; subst m; exact nD) (by simp)
  obtain ⟨g0, rw0, sw0⟩ := r1'.wipes vs
  let Wv : Nat → Nat → Hp → Prop := fun i m H' => m = ds.length - i ∧ i ≤ ds.length ∧ ∃ ρ' F' gp acc accV, Rel b.K b.ks F' H' (wipeD ρ' vs) (wipe σ vs) gp ∧ Same F1 F' ∧ F' Da = none ∧ H' Da = some (.lst accV) ∧ Da ∉ gp ∧ Reps b.K F' accV acc ∧
    Ext F1 H1 fp1 F' H' (gp ++ [Da]) ∧ OkE b (.lst .leaf) F H fp σ Q ((mLcGo k mt me vs (ds.drop i) acc ρ').bind fun ys ρ2 => .ok (.lst ys) (fillD ρ1 vs (wipeD ρ2 vs)))
  refine ⟨Wv, ⟨ds.length, by simp, Nat.zero_le _, ρ1, F1, g0, [], [], rw0, fun _ _ z => z, nDF, upd_same, ?_, .nil, x1'.sub fun y m => ?_, by rw [List.drop_zero]; exact h1⟩, ?_⟩
  · intro m
    have := sw0 _ m
    have n2 := (List.nodup_append.mp nd1').2.2
    exact n2 Da this Da (by simp) rfl
  · rcases List.mem_append.mp m with m | m
    · exact List.mem_append_left _ (sw0 y m)
    · exact List.mem_append_right _ m
  rintro i m H' ⟨hm, hi', ρ', F', gp, acc, accV, r', s', nF', eD, nG, ra, xx, ok'⟩
  obtain ⟨w1, w2⟩ := wk i F' H' s' r'.sub
  by_cases hl : i < ds.length
  · refine .inr ?_
    have ed : ds[i]? = some ds[i] := List.getElem?_eq_getElem hl
    have edr : ds.drop i = ds[i] :: ds.drop (i + 1) := List.drop_eq_getElem_cons hl
    rw [edr] at ok'
    obtain ⟨go, yl⟩ := w1 _ ed
    refine ⟨go, fun H2 => ∃ m', m' < m ∧ Wv (i + 1) m' H2, fun H2 q => q, fun x H2 yy => ?_⟩
    obtain ⟨F2, al, rx⟩ := yl x H2 yy
    obtain ⟨r2, _, x2⟩ := al.rel (fv := []) r' (fun _ m => by simp at m) List.nodup_nil
    rw [List.append_nil] at x2
    have s2 : Same F' F2 := al.same r'.sub
    have eD2 := al.keep Da _ eD
    unfold mLcGo at ok'
    cases e1 : k ds[i] (wipeD ρ' vs) with
    | none => rw [e1] at ok'; exact (show False from ok').elim
    | some ρ3 =>
      rw [e1] at ok'
      dsimp only at ok'
      refine hg _ x _ _ F2 H2 gp ρ3 _ r2 rx e1 fun σ3 g3 r3 s3 q3 => ⟨?_, ?_⟩
      · rw [q3]
        exact wipe_idem σ vs
      have q3' : wipe σ3 vs = wipe σ vs := q3.trans (wipe_idem σ vs)
      have x3 : Ext F' H' gp F2 H2 g3 := x2.sub s3
      obtain ⟨c, ρ4, e2, ok4⟩ := bindN_ok (g := fun r => OkE b (.lst .leaf) F H fp σ Q (r.bind fun ys ρ2 => .ok (.lst ys) (fillD ρ1 vs (wipeD ρ2 vs)))) ok' (fun z => z)
      have nG3 : Da ∉ g3 := fun z => nG (s3 _ z)
      refine ht ρ3 σ3 F2 H2 g3 _ r3 ?_
      rw [e2]
      intro F4 H4 g4 r4 x4
      have eD4 := x4.keep Da _ eD2.1 nG3
      have nG4 : Da ∉ g4 := fun z => by
        rcases x4.fr _ z with q | q
        · exact nG3 q
        · rw [eD2.1] at q; cases q
      have s4 : Same F2 F4 := r3.same x4
      -- the end of a turn
      have turn : ∀ {ρ5 : DEnv} {F5 H5 : Hp} {g5 : List Addr} {acc5 : List D} {accV5 : List V}, Rel b.K b.ks F5 H5 ρ5 σ3 g5 → Same F2 F5 → F5 Da = none → H5 Da = some (.lst accV5) → Da ∉ g5 → Reps b.K F5 accV5 acc5 → Ext F' H' (gp ++ [Da]) F5 H5 (g5 ++ [Da]) →
          OkE b (.lst .leaf) F H fp σ Q ((mLcGo k mt me vs (ds.drop (i + 1)) acc5 ρ5).bind fun ys ρ2 => .ok (.lst ys) (fillD ρ1 vs (wipeD ρ2 vs))) → ∃ m', m' < m ∧ Wv (i + 1) m' H5 := by
        intro ρ5 F5 H5 g5 acc5 accV5 r5 s5 n5 e5 ng5 ra5 x5 ok5
        obtain ⟨g6, r6, s6⟩ := r5.wipes vs
        rw [q3'] at r6
        refine ⟨ds.length - (i + 1), by omega, rfl, hl, ρ5, F5, g6, acc5, accV5, r6, fun a o z => s5 a o (s2 a o (s' a o z)), n5, e5, fun z => ng5 (s6 _ z), ra5, xx.trans (x5.sub fun y m => ?_), ok5⟩
        rcases List.mem_append.mp m with m | m
        · exact List.mem_append_left _ (s6 y m)
        · exact List.mem_append_right _ m
      have grow : ∀ {Fa Ha Fb Hb : Hp} {ga gb : List Addr}, Ext Fa Ha ga Fb Hb gb → Ext Fa Ha (ga ++ [Da]) Fb Hb (gb ++ [Da]) := fun {Fa Ha Fb Hb ga gb} z => ⟨fun a o e n => z.keep a o e fun q => n (List.mem_append_left _ q), fun a q => by
        rcases List.mem_append.mp q with q | q
        · rcases z.fr a q with p | p
          · exact .inl (List.mem_append_left _ p)
          · exact .inr p
        · exact .inl (List.mem_append_right _ q)⟩
      cases c with
      | false =>
        rw [if_neg Bool.false_ne_true] at ok4 ⊢
        refine turn r4 s4 (by rw [eD4.2, eD2.2]; exact nF') eD4.1 nG4 ((ra.mono s2).mono s4) ((grow x3).trans (grow x4)) ok4
      | true =>
        rw [if_pos rfl] at ok4 ⊢
        obtain ⟨y, ρ5, e3, ok5⟩ := bindN_ok (g := fun r => OkE b (.lst .leaf) F H fp σ Q (r.bind fun ys ρ2 => .ok (.lst ys) (fillD ρ1 vs (wipeD ρ2 vs)))) ok4 (fun z => z)
        refine he ρ4 σ3 F4 H4 g4 _ r4 ?_
        rw [e3]
        intro u F5 H5 g5 fv5 r5 nd5 x5 o5
        obtain ⟨ru, rfl⟩ := o5.leafE
        rw [List.append_nil] at x5 nd5
        have eD5 := x5.keep Da _ eD4.1 nG4
        have nG5 : Da ∉ g5 := fun z => by
          rcases x5.fr _ z with q | q
          · exact nG4 q
          · rw [eD4.1] at q; cases q
        have s5 : Same F4 F5 := r4.same x5
        have n5 : F5 Da = none := by rw [eD5.2, eD4.2, eD2.2]; exact nF'
        by_cases hlen : acc.length < 16777216
        · rw [if_pos hlen] at ok5
          refine ⟨accV, eD5.1, by rw [ra.length, sizeLine_eq]; exact hlen, ?_⟩
          have sub6 : Sub F5 (upd H5 Da (.lst (accV ++ [u]))) := sub_updH r5.sub n5 (by intro _ z; cases z)
          have r6 : Rel b.K b.ks F5 (upd H5 Da (.lst (accV ++ [u]))) ρ5 σ3 g5 := ⟨sub6, r5.nd, r5.sl.frame (fun _ _ z => z) fun a m => ⟨(r5.sl.own a m).1, upd_ne fun q => nG5 (q ▸ m)⟩⟩
          refine turn r6 (fun a o z => s5 a o (s4 a o z)) n5 upd_same nG5 ((((ra.mono s2).mono s4).mono s5).append (.cons ru .nil)) ?_ ok5
          refine ((grow x3).trans (grow x4)).trans ⟨fun a o e n => ?_, fun a m => ?_⟩
          · have na : a ≠ Da := fun q => n (by rw [q]; simp)
            have n4 : a ∉ g4 := fun q => n (List.mem_append_left _ q)
            obtain ⟨k1, k2⟩ := x5.keep a o e n4
            exact ⟨(upd_ne na).trans k1, k2⟩
          · rcases List.mem_append.mp m with m | m
            · rcases x5.fr a m with q | q
              · exact .inl (List.mem_append_left _ q)
              · exact .inr q
            · exact .inl (List.mem_append_right _ m)
        · rw [if_neg hlen] at ok5; exact (show False from ok5).elim
  · have e : i = ds.length := by omega
    refine .inl ⟨w2 (by omega), ?_⟩
    rw [e, List.drop_length] at ok'
    have ok2 := OkE.ext x1 ok'
    obtain ⟨g7, r7, s7⟩ := Rel.fill r1 s' nd hk r'
    refine ok2 (.ref Da) F' H' g7 [Da] r7 ?_ (xx.sub fun y m => ?_) (.lst nF' eD (ORs.ofReps ra))
    · refine List.nodup_append.mpr ⟨r7.nd, by simp, fun a m c m2 q => ?_⟩
      have : c = Da := by simpa using m2
      subst this
      subst q
      exact nG (s7 _ m)
    · rcases List.mem_append.mp m with m | m
      · exact List.mem_append_left _ (s7 y m)
      · exact List.mem_append_right _ m
def Tw (vs : List Nat) : St → St → Prop := fun σ' σ => wipe σ' vs = wipe σ vs
theorem wipe_set {i : Nat} (σ : St) (x : Option V) : ∀ {vs : List Nat}, i ∈ vs → wipe (σ.set i x) vs = wipe σ vs
  | u :: vs, h => by
    show (wipe (σ.set i x) vs).set u none = (wipe σ vs).set u none
    by_cases e : i ∈ vs
    · rw [wipe_set σ x e]
    · have eu : u = i := ((List.mem_cons.mp h).resolve_right e).symm
      subst eu
      rw [wipe_out' σ x e]
      exact List.set_set ..
where
  wipe_out' {i : Nat} (σ : St) (x : Option V) : ∀ {vs : List Nat}, i ∉ vs → wipe (σ.set i x) vs = (wipe σ vs).set i x
    | [], _ => rfl
    | u :: vs, h => by
      have h1 : i ≠ u := fun z => h (z ▸ List.mem_cons_self)
      show (wipe (σ.set i x) vs).set u none = ((wipe σ vs).set u none).set i x
      rw [wipe_out' σ x fun z => h (List.mem_cons_of_mem _ z), List.set_comm _ _ h1]
theorem tw_set {i : Nat} {vs : List Nat} (h : i ∈ vs) (σ : St) (x : Option V) : Tw vs (σ.set i x) σ := wipe_set σ x h
/-- the tests of a comprehension: none, one -/
structure ETs (X : Cx) (ks : List Sh) (W : WX) (ifs : List Expr) (t : TT) (m : MT) : Prop where
  pe : PTs X ifs t
  sd : SndT (bd X ks W) t m
def mYes : MT := fun ρ => .ok true ρ
section
variable {X : Cx} {ks : List Sh} {W : WX}
theorem ets_nil : ETs X ks W [] tYes mYes := ⟨pts_nil, fun ρ σ F H fp Q r h => h F H fp r .refl⟩
theorem ev_lc {elt tg iter : Expr} {ifs : List Expr} {scope : Scope} {own : List (Str × Nat)} {pos : Pos} {wi : TI} {g : TG} {tt : TT} {te : TE} {ma : MA} {k : D → DEnv → Option DEnv} {mt : MT} {me : ME} (hc : X.calm = true) (hN : X.N.Nodup) (hi : IV X ks W tg iter wi ma)
    (ok : BlkOk X.N X.env.scope scope own) (nd : (own.map (·.2)).Nodup) (hk : ∀ v ∈ own.map (·.2), ks[v]? = some .leaf)
    (hg : ∀ (s : Shared) (H : Hp) (C : Addr) (cl : List (Str × Addr)) (fp : List Addr), GV (X.blk s H scope (compEnvC scope cl C X.env) fp) ks (Tw (own.map (·.2))) tg g k)
    (ht : ∀ (s : Shared) (H : Hp) (C : Addr) (cl : List (Str × Addr)) (fp : List Addr), ETs (X.blk s H scope (compEnvC scope cl C X.env) fp) ks W0 ifs tt mt)
    (he : ∀ (s : Shared) (H : Hp) (C : Addr) (cl : List (Str × Addr)) (fp : List Addr), EV (X.blk s H scope (compEnvC scope cl C X.env) fp) ks W0 elt .leaf te me) (hs : ∀ x, foldedSetIterable iter X.env x = pure x := by intro _; rfl) :
    EV X ks W (.ListComp elt [⟨tg, iter, ifs, 0⟩] scope pos) (.lst .leaf) (tLc wi g tt te (own.map (·.2))) (mLc ma k mt me (own.map (·.2))) :=
  ⟨pe_lc hc hN hi.pe ok (fun s H C cl fp => (hg s H C cl fp).pe) (fun s H C cl fp => (ht s H C cl fp).pe) (fun s H C cl fp => (he s H C cl fp).pe) hs,
    snd_lc (b := bd X ks W) nd hk (fun ρ σ F H fp Q Ok f r h1 h2 h3 h4 => hi.sd ρ σ F H fp Q Ok f r h1 h2 h3 h4) (fun d v ρ σ F H fp ρ' Q r rp e kk => (hg X.s_0 X.H_0 0 [] []).sd d v ρ σ F H fp ρ' Q r rp e kk)
      (ht X.s_0 X.H_0 0 [] []).sd (he X.s_0 X.H_0 0 [] []).sd⟩
/-- name = [..] -/
theorem sv_setLc {rsh : Sh} {fx : Nat} {i : Nat} {y : Str} {py : Pos} {elt tg iter : Expr} {ifs : List Expr} {scope : Scope} {own : List (Str × Nat)} {pos spos : Pos} {wi : TI} {g : TG} {tt : TT} {te : TE} {ma : MA} {k : D → DEnv → Option DEnv} {mt : MT} {me : ME} {sh : Sh} (hc : X.calm = true) (hN : X.N.Nodup)
    (hy : X.N[i]? = some y) (hyl : X.env.scope.names.lookup y = some .local) (hky : ks[i]? = some sh) (hf : fx ≤ i) (hsh : sh = .lst .leaf ∨ sh = .leaf)
    (hsw : swapsWith (.ListComp elt [⟨tg, iter, ifs, 0⟩] scope pos) (some (.Name y py)) spos.line X.env = pure true) (hi : IV X ks W tg iter wi ma)
    (ok : BlkOk X.N X.env.scope scope own) (nd : (own.map (·.2)).Nodup) (hk : ∀ v ∈ own.map (·.2), ks[v]? = some .leaf)
    (hg : ∀ (s : Shared) (H : Hp) (C : Addr) (cl : List (Str × Addr)) (fp : List Addr), GV (X.blk s H scope (compEnvC scope cl C X.env) fp) ks (Tw (own.map (·.2))) tg g k)
    (ht : ∀ (s : Shared) (H : Hp) (C : Addr) (cl : List (Str × Addr)) (fp : List Addr), ETs (X.blk s H scope (compEnvC scope cl C X.env) fp) ks W0 ifs tt mt)
    (he : ∀ (s : Shared) (H : Hp) (C : Addr) (cl : List (Str × Addr)) (fp : List Addr), EV (X.blk s H scope (compEnvC scope cl C X.env) fp) ks W0 elt .leaf te me) (hs : ∀ x, foldedSetIterable iter X.env x = pure x := by intro _; rfl) :
    SV X ks W rsh fx (.Assign [.Name y py] (.ListComp elt [⟨tg, iter, ifs, 0⟩] scope pos) spos) (tAsg (tLc wi g tt te (own.map (·.2))) (gName i)) (mSet i (mLc ma k mt me (own.map (·.2)))) := by
  have h1 : EV X ks W (.ListComp elt [⟨tg, iter, ifs, 0⟩] scope pos) (.lst .leaf) (tLc wi g tt te (own.map (·.2))) (mLc ma k mt me (own.map (·.2))) := ev_lc hc hN hi ok nd hk hg ht he hs
  have h2 : EV X ks W (.ListComp elt [⟨tg, iter, ifs, 0⟩] scope pos) sh (tLc wi g tt te (own.map (·.2))) (mLc ma k mt me (own.map (·.2))) := by
    rcases hsh with z | z
    · subst z; exact h1
    · subst z; exact ev_frzL h1
  refine ⟨ps_setLc hc hN hy hyl hsw hi.pe ok (fun s H C cl fp => (hg s H C cl fp).pe) (fun s H C cl fp => (ht s H C cl fp).pe) (fun s H C cl fp => (he s H C cl fp).pe) hs, fun ρ σ F H fp D r hok => h2.sd ρ σ F H fp _ r ?_⟩
  unfold mSet at hok
  cases em : mLc ma k mt me (own.map (·.2)) ρ with
  | no => rw [em] at hok; exact hok
  | ex z ρ1 => rw [em] at hok; exact OkS.x hok
  | ok d ρ1 =>
    rw [em] at hok
    intro v F' H' fp' fv r' nd' x' o
    obtain ⟨gp, r2, sb⟩ := r'.store o nd' hky
    exact hok (σ.set i (some v)) F' H' gp r2 (x'.sub sb) (take_set hf)
end
end VL
/-! V10: defs whose callers' guards are known; their promise by data; calls; the end. -/
namespace VL
open PySem PySem.Spec L2

/-- a def's promise, where no guard stands -/
structure FnG (P : Program) (w : World) (K : PySem.W.Frag) (mg : Str → Option Value) (base : Heap) (CX : CXT) (k : Nat) (f : Addr) (fd : FuncData) (ps : List Str) (sp : Sp) : Prop where
  len : ∀ vs H Q E, sp vs H Q E → vs.length = ps.length
  run : ∀ (A : Around) (outer : List Env) (s : Shared) (H : Hp) (args : Args) (us : List Value) (vs : List V) (Q : VK) (E : XK), Room k A → A.guards = some [] → Env0 P w K mg base A outer s H →
    BindsTo s fd args (ps.zip us) → Vals vs us → sp vs H Q E → codeAny (model P w) A (.call (.ref f) args) (CR CX outer P w H s Q E) s
theorem FnG.mono {P : Program} {w : World} {K : PySem.W.Frag} {mg : Str → Option Value} {base : Heap} {CX : CXT} {j k : Nat} {f : Addr} {fd : FuncData} {ps : List Str} {sp : Sp}
    (G : FnG P w K mg base CX j f fd ps sp) (h : j ≤ k) : FnG P w K mg base CX k f fd ps sp :=
  ⟨G.len, fun A o s H a us vs Q E hr => G.run A o s H a us vs Q E (hr.mono h)⟩
/-- its body -/
theorem fng_of {CX : CXT} {P : Program} {w : World} {K : PySem.W.Frag} {mg : Str → Option Value} {base : Heap} {k : Nat} {f : Addr} {nm qn : Str} {pa : Arguments} {bo : List Stmt} {sc : Scope} {dV kV doc pm cdv ct oc : Value} {an od : Option Addr}
    {osl : Array (Option Value)} {N ps : List Str} {sp : Sp}
    (lk : K.lookup f = some ⟨oc, od, .func (PySem.W.fnOf nm qn pa bo sc dV kV doc pm an cdv ct), osl⟩) (hcd : PySem.W.codeIn K cdv qn = true) (S : FnScope N ps sc) (len : ∀ vs H Q E, sp vs H Q E → vs.length = ps.length)
    (body : ∀ (A : Around) (outer : List Env) (s : Shared) (H : Hp) (vs : List V) (Q : VK) (E : XK), Room k (A.deeper (PyProof.Rows.envOfC qn sc s.heap.objs.size f cdv)) → A.guards = some [] → sp vs H Q E →
      ∃ t, PSs (cxOf CX P w K mg base N qn sc f cdv A outer s H E) bo t ∧ t { nx := fun _ H' => Q .non H', rt := Q } (L2.start N vs) H) :
    FnG P w K mg base CX (k + 1) f (PySem.W.fnOf nm qn pa bo sc dV kV doc pm an cdv ct) ps sp := by
  refine ⟨len, fun A outer s H args us vs Q E hr hgd e0 hb r hsp => ?_⟩
  have kin : K.In s.heap := e0.mod.kin.keeps fun b o e => (e0.bs b o e).1
  have nolim : s.heap.NoLimit := e0.mod.nolimit.keeps fun b o e => (e0.bs b o e).1
  have kinds : ∀ y ∈ ps.zip us, sc.names.lookup y.1 = some .local ∨ (sc.names.lookup y.1 = some .cell ∧ ((cellsFrom (s.heap.objs.size + 1) sc.names []).lookup y.1).isSome = true) := by
    rintro ⟨n, v⟩ hy
    cases S.par n (List.of_mem_zip hy).1 with
    | inl q => exact .inl q
    | inr q => exact .inr ⟨q, PySem.W.cellsFrom_some _ _ _ (.inl q)⟩
  refine codeAny_call_function hr.depth (kin _ _ lk) rfl S.co S.gen rfl (PySem.W.codeRec_of kin hcd) (hb _ _ _ _ ?_)
  refine wpAny_newFunctionEnv_cells S.kind kinds fun env he s1 x => ?_
  subst he
  refine ⟨nolim.keeps x.toInCall.keep, codeAny_func ?_⟩
  obtain ⟨t, ht, hq⟩ := body A outer s H vs Q E (hr.deeper _) hgd hsp
  have I := inv_start (CX := CX) (P := P) (w := w) (K := K) (mg := mg) (base := base) (E := E) (cd := cdv) (f := f) S hr.hd e0 (len _ _ _ _ hsp) r x
  refine wpAny_mono (ht.run [] s1 (L2.start N vs) H _ I hq) (fun fl s' hs => ?_) (fun _ _ z => z)
  cases fl with
  | ret u => obtain ⟨v, σ', H', J, rv, q⟩ := hs; exact ⟨v, H', J.os, J.bare, J.base, J.hok, rv, q⟩
  | next => obtain ⟨σ', H', J, q⟩ := hs; exact ⟨.non, H', J.os, J.bare, J.base, J.hok, rfl, q⟩
  | brk => obtain ⟨_, _, _, q⟩ := hs; exact q.elim
  | cont => obtain ⟨_, _, _, q⟩ := hs; exact q.elim
section
variable {X : Cx} {CX : CXT} {k : Nat} {f C : Addr} {fd : FuncData} {ps : List Str} {sp : Sp} {x : Str} {p pos : Pos} {e : Expr} {es : List Expr} {t : TA}
theorem run_fng {E : XK} {pins : List (Addr × Obj)} {σ : St} {H : Hp} {s : Shared} {Q : VK} {us : List Value} {vs : List V} (G : FnG X.prog X.w X.K X.mg X.base CX k f fd ps sp) (hr : Room k X.A) (hgd : X.A.guards = some []) (hb : Binds X.K fd ps []) (hx : PassesAt CX X σ E)
    (I : Inv X pins σ H s) (r : Vals vs us) (h : sp vs H Q E) : wpAny (model X.prog X.w) X.A (call (.ref f) us) (EP X pins σ Q) X.xe s := by
  have hl : (us ++ ([] : List Value)).length = ps.length := by rw [List.append_nil, ← r.length]; exact G.len _ _ _ _ h
  have hb' := hb s us I.kIn hl
  rw [List.append_nil] at hb'
  refine wpAny_call (codeAny_mono (G.run X.A X.stack s H ⟨us, []⟩ us vs Q E hr hgd I.env0 hb' r h) fun r s' hq => ?_)
  match r, hq with
  | .error e, hq => exact hx pins H s e s' I hq
  | .ok (.ret u), hq => exact I.after hq
  | .ok .next, hq => exact False.elim hq
  | .ok .brk, hq => exact False.elim hq
  | .ok .cont, hq => exact False.elim hq
/-- f(e, ..) -/
theorem pe_callG {E : St → XK} (G : FnG X.prog X.w X.K X.mg X.base CX k f fd ps sp) (hr : Room k X.A) (hgd : X.A.guards = some []) (hg : Gl X x) (hm : X.mg x = some (.ref f)) (hk : PySem.W.keepIn X.K (.ref f) = true) (hb : Binds X.K fd ps []) (hx : ∀ σ, PassesAt CX X σ (E σ))
    (ha : PA X (e :: es) t) (hdb : (x == ("__debug__" : Str)) = false) (he : starEach (e :: es) X.env = (false, eval e X.env) :: starEach es X.env) (hpl : (backTo pos (starEach es X.env)).any (·.1) = false) :
    PE X (.Call (.Name x p) (e :: es) [] pos) (tCallS sp E t) := by
  refine ⟨fun pins s σ H Q I h => wpAny_Call_Name_kw (ld_glob I hg hm ?_ hdb)⟩
  exact PySem.W.callWith_K (h₀ := X.base) I.ok.mod.kin hk (thn (ha.run pos pins s σ H _ I h) fun us s1 ⟨vs, H1, I1, r, q⟩ => ⟨I1.kIn, run_fng G hr hgd hb (hx σ) I1 r q⟩) he hpl
end

/-! ### a promise by data -/
def OkF (K : PySem.W.Frag) (mg : Str → Option Value) (psh : List Sh) (fx : Nat) (rsh : Sh) (F H : Hp) (fp : List Addr) (vs : List V) (Q : VK) (E : XK) : R D → Prop
  | .no => False
  | .ok d ρ' => ∀ v F' H' fp' fv, Rel K (psh.take fx) F' H' ρ' ((vs.take fx).map some) fp' → (fp' ++ fv).Nodup → Ext F H fp F' H' (fp' ++ fv) → OR K F' H' rsh v d fv → Q v H'
  | .ex e ρ' => ∀ cls dx F' H' fp', Rel K (psh.take fx) F' H' ρ' ((vs.take fx).map some) fp' → Ext F H fp F' H' fp' → ExR ⟨K, mg, [], W0⟩ F' e cls dx → E cls dx H'
/-- psh: the parameters' shapes, the first fx of them are handed back; rsh: the result's shape; g: what it computes -/
def spV (K : PySem.W.Frag) (mg : Str → Option Value) (n : Nat) (psh : List Sh) (fx : Nat) (rsh : Sh) (g : List D → R D) : Sp := fun vs H Q E =>
  vs.length = n ∧ ∃ F fp ds, Rel K psh F H (ds.map some) (vs.map some) fp ∧ OkF K mg psh fx rsh F H fp vs Q E (g ds)
/-- the end of a body -/
def fin (fx : Nat) : R Fl → R D
  | .no => .no
  | .ok .nx ρ => .ok .non (ρ.take fx)
  | .ok (.rt d) ρ => .ok d (ρ.take fx)
  | .ex e ρ => .ex e (ρ.take fx)
/-- a result that is no exception -/
def R.noEx {α : Type} : R α → R α
  | .ex _ _ => .no
  | r => r
@[simp] theorem R.noEx_ok {α : Type} (a : α) (ρ : DEnv) : (R.ok a ρ).noEx = .ok a ρ := rfl
def runF (N fx : Nat) (m : MS) : List D → R D := fun ds => fin fx (m (ds.map some ++ List.replicate (N - ds.length) none))
theorem RelL.take {K : PySem.W.Frag} {F H : Hp} : ∀ {ks : List Sh} {ρ : DEnv} {σ : St} {fp : List Addr} (n : Nat), RelL K F H ks ρ σ fp → ∃ g, RelL K F H (ks.take n) (ρ.take n) (σ.take n) g ∧ g.Sublist fp
  | _, _, _, _, 0, _ => ⟨[], .nil, List.nil_sublist _⟩
  | _, _, _, _, _ + 1, .nil => ⟨[], .nil, .refl _⟩
  | _, _, _, _, n + 1, .non r => by
    obtain ⟨g, a, b⟩ := RelL.take n r
    exact ⟨g, .non a, b⟩
  | _, _, _, _, n + 1, .som o r => by
    obtain ⟨g, a, b⟩ := RelL.take n r
    exact ⟨_, .som o a, List.Sublist.append (.refl _) b⟩
theorem RelL.more {K : PySem.W.Frag} {F H : Hp} : ∀ (ls : List Sh) {ks : List Sh} {ρ : DEnv} {σ : St} {fp : List Addr}, RelL K F H ks ρ σ fp → RelL K F H (ks ++ ls) (ρ ++ List.replicate ls.length none) (σ ++ List.replicate ls.length none) fp
  | [], _, _, _, _, .nil => .nil
  | _ :: ls, _, _, _, _, .nil => .non (RelL.more ls .nil)
  | ls, _, _, _, _, .non r => .non (RelL.more ls r)
  | ls, _, _, _, _, .som o r => .som o (RelL.more ls r)
/-- the body's reading from its judgement -/
theorem body_ok {X : Cx} {W : WX} {psh lsh : List Sh} {fx : Nat} {rsh : Sh} {bo : List Stmt} {t : TS} {m : MS} {vs : List V} {H : Hp} {Q : VK} {E : XK} {n : Nat} {N : List Str} (h : SVs X (psh ++ lsh) W rsh fx bo t m) (hn : psh.length = n) (hN : N.length = n + lsh.length) (hfx : fx ≤ n) (hnx : rsh = .leaf ∨ ∀ ρ ρ', m ρ ≠ .ok .nx ρ')
    (hW : ∀ cls d σ H', E cls d H' → W cls d σ H') (hs : spV X.K X.mg n psh fx rsh (runF (n + lsh.length) fx m) vs H Q E) : t { nx := fun _ H' => Q .non H', rt := Q } (L2.start N vs) H := by
  obtain ⟨hl, F, fp, ds, r, ok⟩ := hs
  have l1 := r.sl.lens
  have hd : ds.length = n := by have := l1.1; rw [List.length_map] at this; omega
  have e1 : L2.start N vs = vs.map some ++ List.replicate lsh.length none := by
    unfold L2.start
    rw [hN, hl]
    congr 2
    omega
  have e2 : n + lsh.length - ds.length = lsh.length := by omega
  rw [e1]
  refine h.sd (ds.map some ++ List.replicate lsh.length none) _ F H fp _ ⟨r.sub, r.nd, r.sl.more lsh⟩ ?_
  unfold runF at ok
  rw [e2] at ok
  have tk0 : (vs.map some ++ List.replicate lsh.length none).take fx = (vs.take fx).map some := by
    rw [List.take_append_of_le_length (by rw [List.length_map]; omega), List.map_take]
  have tks : (psh ++ lsh).take fx = psh.take fx := List.take_append_of_le_length (by omega)
  -- from the whole frame to the parameters handed back
  have cut : ∀ {F' H' : Hp} {ρ' : DEnv} {σ' : St} {fp' fv : List Addr}, Rel X.K (psh ++ lsh) F' H' ρ' σ' fp' → (fp' ++ fv).Nodup → Ext F H fp F' H' (fp' ++ fv) → σ'.take fx = (vs.map some ++ List.replicate lsh.length none).take fx →
      ∃ gp, Rel X.K (psh.take fx) F' H' (ρ'.take fx) ((vs.take fx).map some) gp ∧ (gp ++ fv).Nodup ∧ Ext F H fp F' H' (gp ++ fv) := fun {F' H' ρ' σ' fp' fv} r' nd x q => by
    obtain ⟨g, a, b⟩ := r'.sl.take fx
    rw [tks, q, tk0] at a
    refine ⟨g, ⟨r'.sub, r'.nd.sublist b, a⟩, nd.sublist (List.Sublist.append b (.refl _)), x.sub fun y m => ?_⟩
    rcases List.mem_append.mp m with m | m
    · exact List.mem_append_left _ (b.subset m)
    · exact List.mem_append_right _ m
  cases em : m (ds.map some ++ List.replicate lsh.length none) with
  | no => rw [em] at ok; exact ok
  | ex e ρ' =>
    rw [em] at ok
    intro cls dx σ' F' H' fp' r' x q ex
    obtain ⟨gp, r2, _, x2⟩ := cut (fv := []) r' (by rw [List.append_nil]; exact r'.nd) (by rw [List.append_nil]; exact x) q
    rw [List.append_nil] at x2
    exact hW _ _ _ _ (ok cls dx F' H' gp r2 x2 ex)
  | ok f ρ' =>
    rw [em] at ok
    cases f with
    | nx =>
      intro σ' F' H' fp' r' x q
      rcases hnx with z | z
      · subst z
        obtain ⟨gp, r2, nd2, x2⟩ := cut (fv := []) r' (by rw [List.append_nil]; exact r'.nd) (by rw [List.append_nil]; exact x) q
        exact ok .non F' H' gp [] r2 nd2 x2 (.leaf .non)
      · exact absurd em (z _ _)
    | rt d =>
      intro v σ' F' H' fp' fv r' nd x q o
      obtain ⟨gp, r2, nd2, x2⟩ := cut r' nd x q
      exact ok v F' H' gp fv r2 nd2 x2 o
section
variable {P : Program} {w : World} {K : PySem.W.Frag} {mg : Str → Option Value} {base : Heap}
/-- a def that raises nothing -/
theorem Fun.okG {x qual : Str} {st : Stmt} {f : Addr} {fd : FuncData} {N ps : List Str} {k n : Nat} {psh lsh : List Sh} {fx : Nat} {rsh : Sh} {m : MS} (G : L2.Fun K x qual st f fd) (S : FnScope N ps (defScope st)) (hp : ps.length = n) (hn : psh.length = n) (hN : N.length = n + lsh.length) (hfx : fx ≤ n) (hnx : rsh = .leaf ∨ ∀ ρ ρ', m ρ ≠ .ok .nx ρ')
    (body : ∀ X : Cx, X.prog = P → X.w = w → X.K = K → X.mg = mg → X.base = base → X.N = N → X.calm = true → X.xe = (fun _ _ => False) → X.fn = (fun _ => true) → (∃ L f cd, X.env = PyProof.Rows.envOfC qual (defScope st) L f cd) → Room k X.A → X.A.guards = some [] →
      ∃ t, SVs X (psh ++ lsh) W0 rsh fx (defBody st) t m) : FnG P w K mg base CX0 (k + 1) f fd ps (spV K mg n psh fx rsh fun ds => (runF (n + lsh.length) fx m ds).noEx) := by
  obtain ⟨oc, od, kV, doc, pm, an, cdv, ct, osl, rfl, lk, hcd⟩ := G.ex
  refine fng_of lk hcd S (fun vs H Q E h => h.1.trans hp.symm) fun A outer s H vs Q E hr hgd hsp => ?_
  obtain ⟨t, ht⟩ := body (cxOf CX0 P w K mg base N qual (defScope st) f cdv A outer s H E).nox rfl rfl rfl rfl rfl rfl rfl rfl rfl ⟨_, _, _, rfl⟩ hr hgd
  refine ⟨t, ht.pe.nox, body_ok (E := fun _ _ _ => False) ht hn hN hfx hnx (fun _ _ _ _ z => z) ?_⟩
  obtain ⟨h1, F, fp, ds, r, ok⟩ := hsp
  refine ⟨h1, F, fp, ds, r, ?_⟩
  dsimp only at ok
  cases e : runF (n + lsh.length) fx m ds with
  | no => rw [e] at ok; exact ok
  | ok d ρ' => rw [e] at ok; exact ok
  | ex y ρ' => rw [e] at ok; exact (show False from ok).elim
end

/-! ### calls -/
def mCall0 (n : Nat) (g : List D → R D) (a : MA) : ME := fun ρ => (a ρ).bind fun ds ρ1 => if ds.length = n then (match g ds with | .ok d _ => .ok d ρ1 | .ex e _ => .ex e ρ1 | .no => .no) else .no
def mCall1 (i n : Nat) (g : List D → R D) (a : MA) : ME := fun ρ => (R.of (own ρ i) ρ).bind fun _ _ => (a ρ).bind fun ds ρ1 => (R.of (own ρ1 i) ρ1).bind fun d0 _ =>
  if ds.length = n then (match g (d0 :: ds) with | .ok d [some d1] => .ok d (ρ1.set i (some d1)) | .ex e [some d1] => .ex e (ρ1.set i (some d1)) | _ => .no) else .no
abbrev leaves (n : Nat) : List Sh := List.replicate n .leaf
theorem relL_leaves {K : PySem.W.Frag} {F H : Hp} : ∀ {vs : List V} {ds : List D}, Reps K F vs ds → RelL K F H (leaves ds.length) (ds.map some) (vs.map some) []
  | _, _, .nil => .nil
  | _, _, .cons h t => RelL.som (f := []) (fp := []) (.leaf h) (relL_leaves t)
section
variable {X : Cx} {ks : List Sh} {W : WX} {CX : CXT} {k n : Nat} {f : Addr} {fd : FuncData} {ps : List Str} {rsh s0 : Sh} {g : List D → R D} {x : Str} {p pos : Pos} {e : Expr} {es : List Expr} {t : TA} {ma : MA}
theorem snd_call0 {b : Bd} (hW : b.W = W) (ha : SndA b t ma) : SndE b rsh (tCallS (spV b.K b.mg n (leaves n) 0 rsh g) (WE W) t) (mCall0 n g ma) := by
  intro ρ σ F H fp Q r hok
  refine ha.go r (Ok := OkE b rsh F H fp σ Q) hok (fun z => z) (fun _ _ z => z) fun ds ρ1 vs F1 H1 fp1 h1 r1 x1 p1 => ?_
  by_cases hn : ds.length = n
  · rw [if_pos hn] at h1
    refine ⟨by rw [p1.length]; exact hn, F1, [], ds, ⟨r1.sub, List.nodup_nil, by rw [← hn]; exact relL_leaves p1⟩, ?_⟩
    have h2 := OkE.ext x1 h1
    -- the callee only lays
    have back : ∀ {F' H' : Hp} {fp' fv : List Addr}, Sub F' H' → Ext F1 H1 [] F' H' (fp' ++ fv) → Alc F1 H1 F' H' := fun {F' H' fp' fv} s x => ⟨s, fun a o z => x.keep a o z (by simp)⟩
    cases eg : g ds with
    | no => rw [eg] at h2; exact h2
    | ok d ρ' =>
      rw [eg] at h2
      intro v F' H' fp' fv r' nd x o
      have nd' := List.nodup_append.mp nd
      obtain ⟨r2, nd2, x2⟩ := (back r'.sub x).rel (fv := fv) r1 (fun y m => (x.fr y (List.mem_append_right _ m)).resolve_left (by simp)) nd'.2.1
      exact h2 v F' H' fp1 fv r2 nd2 x2 o
    | ex y ρ' =>
      rw [eg] at h2
      intro cls dx F' H' fp' r' x ex
      obtain ⟨r2, _, x2⟩ := (back (fv := []) r'.sub (by rw [List.append_nil]; exact x)).rel (fv := []) r1 (fun y m => by simp at m) List.nodup_nil
      rw [List.append_nil] at x2
      show W cls dx σ H'
      rw [← hW]
      exact h2 cls dx F' H' fp1 r2 x2 ex
  · rw [if_neg hn] at h1; exact (show False from h1).elim
theorem snd_call1 {b : Bd} {i : Nat} (hW : b.W = W) (hk : b.ks[i]? = some s0) (ha : SndA b t ma) : SndE b rsh (tCallS (spV b.K b.mg (n + 1) (s0 :: leaves n) 1 rsh g) (WE W) (tCons (tVar i) t)) (mCall1 i n g ma) := by
  intro ρ σ F H fp Q r hok
  unfold mCall1 at hok
  cases e0 : own ρ i with
  | none => rw [e0] at hok; exact (show False from hok).elim
  | some dd =>
    rw [e0] at hok
    obtain ⟨v, f0, g0, s1, _, _, _⟩ := r.sl.split hk (getE e0)
    refine ⟨v, s1, ?_⟩
    refine ha.go r (Ok := OkE b rsh F H fp σ Q) hok (fun z => z) (fun _ _ z => z) fun ds ρ1 vs F1 H1 fp1 h1 r1 x1 p1 => ?_
    cases e1 : own ρ1 i with
    | none => rw [e1] at h1; exact (show False from h1).elim
    | some d0 =>
      rw [e1, R.of_some, R.bind_ok] at h1
      by_cases hn : ds.length = n
      · rw [if_pos hn] at h1
        obtain ⟨v', fa, gb, s2, o1, sl, pm⟩ := r1.sl.split hk (getE e1)
        rw [s1] at s2
        cases s2
        have nda := List.nodup_append.mp (pm.nodup_iff.mp r1.nd)
        have rl : RelL b.K F1 H1 (s0 :: leaves n) (some d0 :: ds.map some) (some v :: vs.map some) (fa ++ []) := .som o1 (by rw [← hn]; exact relL_leaves p1)
        rw [List.append_nil] at rl
        refine ⟨by rw [List.length_cons, p1.length, hn], F1, fa, d0 :: ds, ⟨r1.sub, nda.1, rl⟩, ?_⟩
        have h2 := OkE.ext x1 h1
        have fa_in : ∀ y ∈ fa, y ∈ fp1 := fun y m => pm.symm.subset (List.mem_append_left _ m)
        have gb_in : ∀ y ∈ gb, y ∈ fp1 := fun y m => pm.symm.subset (List.mem_append_right _ m)
        -- what stands of the frame behind the callee
        have back : ∀ {F' H' : Hp} {ρ' : DEnv} {d1 : D} {fp' fv : List Addr}, ρ' = [some d1] → Rel b.K ((s0 :: leaves n).take 1) F' H' ρ' (((v :: vs).take 1).map some) fp' → (fp' ++ fv).Nodup → Ext F1 H1 fa F' H' (fp' ++ fv) →
            ∃ gp, Rel b.K b.ks F' H' (ρ1.set i (some d1)) σ gp ∧ (gp ++ fv).Nodup ∧ Ext F1 H1 fp1 F' H' (gp ++ fv) := by
          intro F' H' ρ' d1 fp' fv eρ r' nd x
          subst eρ
          have r0 := r'.sl
          rw [List.take_succ_cons, List.take_zero, List.take_succ_cons, List.take_zero] at r0
          cases r0 with
          | @som _ _ _ _ _ _ fz fz' oz rz =>
            cases rz
            have keepg : ∀ y ∈ gb, ∃ o, H1 y = some o ∧ y ∉ fa ∧ H' y = some o ∧ F' y = F1 y := fun y m => by
              obtain ⟨_, o, ho⟩ := sl.own y m
              have nf : y ∉ fa := fun q => nda.2.2 y q y m rfl
              obtain ⟨k1, k2⟩ := x.keep y o ho nf
              exact ⟨o, ho, nf, k1, k2⟩
            have sF : Same F1 F' := fun a o z => by
              have n1 : a ∉ fa := fun q => by rw [(o1.own a q).1] at z; cases z
              rw [(x.keep a o (r1.sub _ _ z) n1).2]; exact z
            have sl2 : RelL b.K F' H' b.ks (ρ1.set i none) σ gb := sl.frame sF fun a m => by
              obtain ⟨o, q1, _, q2, q3⟩ := keepg a m
              exact ⟨q3.trans (sl.own a m).1, q2.trans q1.symm⟩
            obtain ⟨gp, r2, p2⟩ := RelL.join oz sl2 hk s1
            have fzin : ∀ y ∈ fz, y ∈ fz ++ [] ++ fv := fun y m => List.mem_append_left _ (List.mem_append_left _ m)
            have ndz := List.nodup_append.mp nd
            have apart : ∀ y ∈ fz ++ [] ++ fv, ∀ z ∈ gb, y ≠ z := fun y m z m2 q => by
              subst q
              obtain ⟨o, q1, q2, _, _⟩ := keepg y m2
              rcases x.fr y m with w | w
              · exact q2 w
              · rw [w] at q1; cases q1
            refine ⟨gp, ⟨r'.sub, p2.nodup_iff.mpr (List.nodup_append.mpr ⟨?_, nda.2.1, fun y m z m2 => apart y (fzin y m) z m2⟩), r2⟩, ?_, ⟨fun a o z n1 => x.keep a o z fun q => n1 (fa_in a q), fun y m => ?_⟩⟩
            · have := ndz.1; rwa [List.append_nil] at this
            · refine List.nodup_append.mpr ⟨p2.nodup_iff.mpr (List.nodup_append.mpr ⟨by have := ndz.1; rwa [List.append_nil] at this, nda.2.1, fun y m z m2 => apart y (fzin y m) z m2⟩), ndz.2.1, fun y m z m2 q => ?_⟩
              subst q
              rcases List.mem_append.mp (p2.subset m) with w | w
              · exact ndz.2.2 y (by rw [List.append_nil]; exact w) y m2 rfl
              · exact apart y (List.mem_append_right _ m2) y w rfl
            · rcases List.mem_append.mp m with m | m
              · rcases List.mem_append.mp (p2.subset m) with w | w
                · rcases x.fr y (fzin y w) with q | q
                  · exact .inl (fa_in y q)
                  · exact .inr q
                · exact .inl (gb_in y w)
              · rcases x.fr y (List.mem_append_right _ m) with q | q
                · exact .inl (fa_in y q)
                · exact .inr q
        cases eg : g (d0 :: ds) with
        | no => rw [eg] at h2; exact h2
        | ok d ρ' =>
          rw [eg] at h2
          intro v' F' H' fp' fv r' nd x o
          split at h2
          · rename_i d' d1 q
            cases q
            obtain ⟨gp, q1, q2, q3⟩ := back rfl r' nd x
            exact h2 v' F' H' gp fv q1 q2 q3 o
          · rename_i q
            cases q
          · exact (show False from h2).elim
        | ex y ρ' =>
          rw [eg] at h2
          intro cls dx F' H' fp' r' x ex
          split at h2
          · rename_i q
            cases q
          · rename_i e' d1 q
            cases q
            obtain ⟨gp, q1, _, q3⟩ := back (fv := []) rfl r' (by rw [List.append_nil]; exact r'.nd) (by rw [List.append_nil]; exact x)
            rw [List.append_nil] at q3
            show W cls dx σ H'
            rw [← hW]
            exact h2 cls dx F' H' gp q1 q3 ex
          · exact (show False from h2).elim
      · rw [if_neg hn] at h1; exact (show False from h1).elim
/-- a def of the top, to be called by its name -/
structure Cl (X : Cx) (CX : CXT) (k : Nat) (x : Str) (n : Nat) (psh : List Sh) (fx : Nat) (rsh : Sh) (g : List D → R D) : Prop where
  ex : ∃ f fd ps, FnG X.prog X.w X.K X.mg X.base CX k f fd ps (spV X.K X.mg n psh fx rsh g) ∧ X.mg x = some (.ref f) ∧ PySem.W.keepIn X.K (.ref f) = true ∧ Binds X.K fd ps []
theorem ev_call0 (c : Cl X CX k x n (leaves n) 0 rsh g) (hx : ∀ σ, PassesAt CX X σ (WE W σ)) (hr : Room k X.A) (hgd : X.A.guards = some []) (ha : EA X ks W (e :: es) t ma) (hg : Gl X x := by rfl) (hdb : (x == ("__debug__" : Str)) = false := by decide)
    (he : starEach (e :: es) X.env = (false, eval e X.env) :: starEach es X.env := by rfl) (hpl : (backTo pos (starEach es X.env)).any (·.1) = false := by rfl) : EV X ks W (.Call (.Name x p) (e :: es) [] pos) rsh (tCallS (spV X.K X.mg n (leaves n) 0 rsh g) (WE W) t) (mCall0 n g ma) := by
  obtain ⟨f, fd, ps, G, hm, hk, hb⟩ := c.ex
  exact ⟨pe_callG G hr hgd hg hm hk hb hx ha.pe hdb he hpl, snd_call0 (b := bd X ks W) rfl ha.sd⟩
theorem ev_call1 {y : Str} {p' : Pos} (i : Nat) (c : Cl X CX k x (n + 1) (s0 :: leaves n) 1 rsh g) (hx : ∀ σ, PassesAt CX X σ (WE W σ)) (hr : Room k X.A) (hgd : X.A.guards = some []) (ha : EA X ks W es t ma) (hky : ks[i]? = some s0 := by rfl) (hN : X.N[i]? = some y := by rfl)
    (hv : Vis X.env.scope y := by first | exact Or.inl rfl | exact Or.inr (Or.inl rfl) | exact Or.inr (Or.inr rfl)) (hd : (y == ("__debug__" : Str)) = false := by decide) (hcd : (y == ("__classdict__" : Str)) = false := by decide) (hg : Gl X x := by rfl) (hdb : (x == ("__debug__" : Str)) = false := by decide)
    (he : starEach (.Name y p' :: es) X.env = (false, eval (.Name y p') X.env) :: starEach es X.env := by rfl) (hpl : (backTo pos (starEach es X.env)).any (·.1) = false := by rfl) :
    EV X ks W (.Call (.Name x p) (.Name y p' :: es) [] pos) rsh (tCallS (spV X.K X.mg (n + 1) (s0 :: leaves n) 1 rsh g) (WE W) (tCons (tVar i) t)) (mCall1 i n g ma) := by
  obtain ⟨f, fd, ps, G, hm, hk, hb⟩ := c.ex
  exact ⟨pe_callG G hr hgd hg hm hk hb hx (pa_cons (pe_var hN hv hd hcd) ha.pe he) hdb he hpl, snd_call1 (b := bd X ks W) rfl hky ha.sd⟩
theorem px0 : ∀ σ, PassesAt CX0 X σ (WE W σ) := fun _ _ _ _ _ _ _ h => h.elim
end
end VL
/-! V11: the built-ins. -/
namespace VL
open PySem PySem.Spec L2

def asStrs : List D → Option (List Str)
  | [] => some []
  | .str i :: r => (asStrs r).bind fun t => some (i :: t)
  | _ => none
/-- the members of a list, of a tuple -/
def D.mem : D → Option (List D)
  | .lst ds => some ds
  | .tup ds => some ds
  | .key ks => some (ks.map keyD)
  | .scr ns => some (ns.map .int)
  | _ => none
section
variable {K : PySem.W.Frag} {F H : Hp}
theorem Vw.memE (sm : Sub F H) {v : V} {d : D} {ds : List D} (h : Vw K F H v d) (e : d.mem = some ds) : ∃ p vs, v = .ref p ∧ (SqL K H p vs ∨ SqT K H p vs) ∧ Reps K F vs ds := by
  cases d with
  | lst _ => cases e; obtain ⟨p, vs, e1, e2, r⟩ := h.lstE sm; exact ⟨p, vs, e1, .inl (.inl (.inl e2)), r⟩
  | tup _ => cases e; obtain ⟨p, vs, e1, e2, e3, r⟩ := h.tupR sm; exact ⟨p, vs, e1, .inr e2, r⟩
  | key _ => cases e; obtain ⟨p, e1, e2, r⟩ := h.keyR sm; exact ⟨p, _, e1, .inr e2, r⟩
  | scr ns => cases e; obtain ⟨p, e1, e2⟩ := h.scrE sm; exact ⟨p, _, e1, .inl e2, reps_ints ns⟩
  | _ => cases e
theorem pr1 {R0 : D → V → Prop} {d : D} {xs : List V} (h : Paired R0 [d] xs) : ∃ x, xs = [x] ∧ R0 d x := by
  cases h with | cons a t => cases t; exact ⟨_, rfl, a⟩
/-- f of one thing -/
def one (f : D → Option D) : List D → Option D
  | [d] => f d
  | _ => none
def two (f : D → D → Option D) : List D → Option D
  | [d, e] => f d e
  | _ => none
theorem s_one {sh : Sh} {r : List V → Hp → VK → Prop} {f : D → Option D} (h : ∀ F H x d z Q, Sub F H → Vw K F H x d → f d = some z → OkV K sh F H Q z → r [x] H Q) : OpN K sh r (one f) := by
  intro F H xs ds z Q sm hp e ok
  match ds, hp, e with
  | [d], hp, e => obtain ⟨x, rfl, v⟩ := pr1 hp; exact h F H x d z Q sm v e ok
/-! ### len -/
def lenD : D → Option D
  | .str x => some (.int x.length)
  | .lst ds => some (.int ds.length)
  | .tup ds => some (.int ds.length)
  | .key ks => some (.int ks.length)
  | .scr ns => some (.int ns.length)
  | .dK kvs => some (.int kvs.length)
  | .dT kvs => some (.int kvs.length)
  | _ => none
theorem call_lenR {X : Cx} : CallR X (.builtin "len") (fun xs H Q => ∃ a kvs, xs = [V.ref a] ∧ Rd H a (.dK kvs) ∧ Q (.int kvs.length) H) := by
  intro pins s σ H xs us Q I r h
  obtain ⟨a, kvs, rfl, ha, q⟩ := h
  obtain ⟨u, rfl, ru⟩ := vals1 r
  cases ru
  exact d_len I ha fun t s' I' => ⟨.int kvs.length, H, I', ⟨t, rfl⟩, q⟩
theorem call_lenRT {X : Cx} : CallR X (.builtin "len") (fun xs H Q => ∃ a kvs, xs = [V.ref a] ∧ Rd H a (.dT kvs) ∧ Q (.int ((kvs.length : Nat) : Int)) H) := by
  intro pins s σ H xs us Q I r h
  obtain ⟨p, kvs, rfl, hp, q⟩ := h
  obtain ⟨u, rfl, rx⟩ := vals1 r
  obtain rfl : u = .ref p := rx
  obtain ⟨z, hd, ys, rel, dd⟩ := dt_rd I.hok hp
  have hl : kvs.length = ys.length := Paired.length rel
  refine call_len_dictH hd dd (by rw [← hl]; rw [sizeLine_eq] at z; omega) ?_
  rw [← hl]
  exact ⟨.int ((kvs.length : Nat) : Int), H, I.tok _, ⟨_, rfl⟩, q⟩
abbrev rLenU (K : PySem.W.Frag) : List V → Hp → VK → Prop := fun xs H Q => (∃ x n, xs = [x] ∧ LenV K x H n ∧ Q (.int n) H) ∨ (∃ a kvs, xs = [V.ref a] ∧ Rd H a (.dK kvs) ∧ Q (.int kvs.length) H) ∨ (∃ a kvs, xs = [V.ref a] ∧ Rd H a (.dT kvs) ∧ Q (.int ((kvs.length : Nat) : Int)) H)
theorem cr_len {X : Cx} : CallR X (.builtin "len") (rLenU X.K) := call_len.or (call_lenR.or call_lenRT)
theorem s_len : OpN K .leaf (rLenU K) (one lenD) := by
  refine s_one fun F H x d z Q sm h e ok => ?_
  unfold lenD at e
  split at e
  · cases e; obtain ⟨e1, e2⟩ := h.strE; subst e1; exact .inl ⟨_, _, rfl, ⟨asc_line e2, rfl⟩, ok.here sm (.int _)⟩
  · cases e; obtain ⟨p, vs, e1, e2, r⟩ := h.lstE sm; subst e1; exact .inl ⟨_, vs.length, rfl, .inl ⟨_, (.inl (.inl e2)), rfl⟩, by rw [r.length]; exact ok.here sm (.int _)⟩
  · cases e; obtain ⟨p, vs, e1, e2, e3, r⟩ := h.tupR sm; subst e1; exact .inl ⟨_, vs.length, rfl, .inr ⟨_, e2, rfl⟩, by rw [r.length]; exact ok.here sm (.int _)⟩
  · cases e; rename_i ks; obtain ⟨p, e1, e2, r⟩ := h.keyR sm; subst e1; exact .inl ⟨_, (ks.map kV).length, rfl, .inr ⟨_, e2, rfl⟩, by rw [List.length_map]; exact ok.here sm (.int _)⟩
  · cases e; rename_i ns; obtain ⟨p, e1, e2⟩ := h.scrE sm; subst e1; exact .inl ⟨_, (ns.map V.int).length, rfl, .inl ⟨_, e2, rfl⟩, by rw [List.length_map]; exact ok.here sm (.int _)⟩
  · cases e
    obtain ⟨p, kvs, e1, e2, e3, r⟩ := h.dKE sm; subst e1
    have hl := congrArg List.length e3
    rw [List.length_map, List.length_map] at hl
    exact .inr (.inl ⟨_, _, rfl, e2, by rw [hl]; exact ok.here sm (.int _)⟩)
  · cases e
    obtain ⟨p, kvs, e1, e2, e3, r⟩ := h.dTE sm; subst e1
    have hl := congrArg List.length e3
    rw [List.length_map, List.length_map] at hl
    exact .inr (.inr ⟨_, _, rfl, e2, by rw [hl]; exact ok.here sm (.int _)⟩)
  · cases e

/-! ### all, any, sum, min, max, int -/
theorem optb {α β : Type} {o : Option α} {g : α → Option β} {z : β} (h : o.bind g = some z) : ∃ a, o = some a ∧ g a = some z := by
  cases o with
  | none => cases h
  | some a => exact ⟨a, rfl, h⟩
def intD : D → Option D
  | .int i => some (.int i)
  | .bl b => some (.int (if b then 1 else 0))
  | _ => none
theorem s_int : OpN K .leaf (fun xs H Q => (∃ i, xs = [.int i] ∧ Q (.int i) H) ∨ ∃ k, xs = [.bl k] ∧ Q (.int (if k then 1 else 0)) H) (one intD) := by
  refine s_one fun F H x d z Q sm h e ok => ?_
  cases d with
  | int i => cases e; rw [h.intE]; exact .inl ⟨i, rfl, ok.here sm (.int _)⟩
  | bl i => cases e; rw [h.blE]; exact .inr ⟨i, rfl, ok.here sm (.int _)⟩
  | _ => cases e

/-! ### list, tuple -/
def listD (d : D) : Option D := d.mem.bind fun ds => some (.lst ds)
theorem s_listOf : OpN K (.lst .leaf) (fun xs H Q => ∃ p ys, xs = [.ref p] ∧ (SqL K H p ys ∨ SqT K H p ys) ∧ ∀ l, H l = none → Q (.ref l) (upd H l (.lst ys))) (one listD) := by
  refine s_one fun F H x d z Q sm h e ok => ?_
  obtain ⟨ds, e1, e⟩ := optb e
  cases e
  obtain ⟨p, vs, rfl, q, r⟩ := h.memE sm e1
  exact ⟨p, vs, rfl, q, fun l n => ok.newL sm r n⟩
def D.memT : D → Option (List D)
  | .key _ => none
  | d => d.mem
@[simp] theorem memT_lst (ds : List D) : (D.lst ds).memT = some ds := rfl
@[simp] theorem memT_tup (ds : List D) : (D.tup ds).memT = some ds := rfl
def tupleD (d : D) : Option D := d.memT.bind fun ds => some (.tup ds)
theorem s_tupleOf : Op1 K .leaf (kTupF K) tupleD := by
  intro F H x d z Q sm h e ok
  obtain ⟨ds, e1, e⟩ := optb e
  cases e
  cases d with
  | tup es =>
    cases e1
    obtain ⟨p, vs, e1, e2, e3, r⟩ := h.tupR sm
    subst e1
    exact .inr ⟨p, vs, rfl, e2, ok.here sm (.tup e3 r)⟩
  | lst es =>
    cases e1
    obtain ⟨p, vs, e1, e2, r⟩ := h.lstE sm
    subst e1
    exact .inl ⟨p, vs, rfl, .inl (.inl e2), fun l us n => ok.newT sm r n⟩
  | scr ns =>
    cases e1
    obtain ⟨p, e1, e2⟩ := h.scrE sm
    subst e1
    exact .inl ⟨p, _, rfl, e2, fun l us n => ok.newT sm (reps_ints ns) n⟩
  | _ => cases e1
end
section
variable {X : Cx} {ks : List Sh} {W : WX} {a : Expr} {ta : TE} {p pos : Pos}
theorem ev_tupleOf {mo : MO} (ha : EO X ks W a ta mo) (hm : X.mg "tuple" = none) (hg : Gl X "tuple" := by rfl) (na : starEach [a] X.env = (false, eval a X.env) :: starEach [] X.env := by rfl) :
    EV X ks W (.Call (.Name "tuple" p) [a] [] pos) .leaf (tThen ta (kTupF X.K)) (mOp1 tupleD mo) := ⟨pe_tupleOfF hg hm ha.pe na, snd_op1 (b := bd X ks W) s_tupleOf ha.sd⟩
end

/-! ### isinstance -/
def D.cls : D → Option String
  | .non => some "NoneType" | .bl _ => some "bool" | .int _ => some "int" | .str _ => some "str"
  | .tup _ => some "tuple" | .key _ => some "tuple" | .lst _ => some "list" | .dK _ => some "dict" | .scr _ => some "list"
  | _ => none
section
variable {X : Cx} {ks : List Sh} {W : WX} {pos : Pos}
end

/-! ### methods of texts -/
section
variable {K : PySem.W.Frag}
end

/-! ### repr -/
def keyW : Key → Nat
  | .inl _ => 2000
  | .inr x => 10 * x.length + 2
mutual
/-- no shorter than the text that is shown -/
def D.wt : D → Nat
  | .non => 4 | .bl _ => 5 | .int _ => 2000 | .str x => 10 * x.length + 2
  | .tup xs => wtL xs + 2 * xs.length + 3 | .lst xs => wtL xs + 2 * xs.length + 3
  | .scr ns => 2002 * ns.length + 3
  | .key ks => (ks.map keyW).sum + 2 * ks.length + 3
  | _ => 0
def wtL : List D → Nat
  | [] => 0
  | d :: ds => d.wt + wtL ds
end
def reprOk (d : D) : Bool := d.py && d.toPy.showable && decide (d.toPy.depth ≤ 60) && decide (d.wt ≤ 16777216)
def reprD (d : D) : Option D := if reprOk d = true then some (.rp d.toPy) else none
theorem int_shown {i : Int} (h : i.natAbs.log2 < 1920) : (PyData.shown (.int i)).length ≤ 2000 := by
  have e := PySem.int_text_length_le (k := 1920) (by decide) h
  show (Str.ofString (toString i)).length ≤ 2000
  rw [PyProof.Rows.ofString_len]
  omega
theorem listText_le (ts : List Str) : (listText ts).length ≤ (ts.map (·.length)).sum + 2 * ts.length + 3 := by
  have := PySem.listText_len_le ts
  omega
theorem ints_shown : ∀ {ns : List Int}, PyData.showableAll (ns.map PyData.int) = true → ((PyData.shownAll (ns.map PyData.int)).map (·.length)).sum ≤ 2000 * ns.length ∧ (PyData.shownAll (ns.map PyData.int)).length = ns.length
  | [], _ => ⟨Nat.le_refl _, rfl⟩
  | n :: ns, h => by
    rw [List.map_cons, PyData.showableAll, Bool.and_eq_true, PyData.showable, decide_eq_true_eq] at h
    obtain ⟨h1, h2⟩ := ints_shown h.2
    have h3 := int_shown h.1
    rw [List.map_cons, PyData.shownAll, List.map_cons, List.sum_cons, List.length_cons, List.length_cons, h2]
    exact ⟨by omega, rfl⟩
theorem keys_shown : ∀ {ks : List Key}, ks.all ascK = true → PyData.showableAll (ks.map keyP) = true → ((PyData.shownAll (ks.map keyP)).map (·.length)).sum ≤ (ks.map keyW).sum ∧ (PyData.shownAll (ks.map keyP)).length = ks.length
  | [], _, _ => ⟨Nat.le_refl _, rfl⟩
  | k :: ks, a, h => by
    rw [List.all_cons, Bool.and_eq_true] at a
    rw [List.map_cons, PyData.showableAll, Bool.and_eq_true] at h
    obtain ⟨h1, h2⟩ := keys_shown a.2 h.2
    rw [List.map_cons, PyData.shownAll, List.map_cons, List.sum_cons, List.map_cons, List.sum_cons, List.length_cons, List.length_cons, h2]
    have h3 : (keyP k).shown.length ≤ keyW k := by
      cases k with
      | inl i =>
        have h' := h.1
        rw [keyP, PyData.showable, decide_eq_true_eq] at h'
        exact int_shown h'
      | inr x =>
        rw [keyP, PyData.shown]
        exact PySem.StrLaws.reprText_len x fun c m => Nat.lt_of_lt_of_le ((ascE a.1).1 c m) (by decide)
    exact ⟨by omega, rfl⟩
mutual
theorem Rep.wt {K : PySem.W.Frag} {F : Hp} : ∀ {v : V} {d : D}, Rep K F v d → d.py = true → d.toPy.showable = true → d.toPy.shown.length ≤ d.wt
  | _, _, .non, _, _ => by rw [D.toPy, D.wt]; decide
  | _, _, .bl b, _, _ => by rw [D.toPy, D.wt]; cases b <;> decide
  | _, _, .int i, _, h => by rw [D.toPy, PyData.showable, decide_eq_true_eq] at h; rw [D.toPy, D.wt]; exact int_shown h
  | _, _, .str x a, _, _ => by
    rw [D.toPy, D.wt, PyData.shown]
    exact PySem.StrLaws.reprText_len x fun c m => Nat.lt_of_lt_of_le ((ascE a).1 c m) (by decide)
  | _, _, .tup _ r, q, h => by
    rw [D.py] at q
    rw [D.toPy, PyData.showable] at h
    obtain ⟨h1, h2⟩ := Reps.wt r q h
    rw [D.toPy, D.wt, PyData.shown]
    refine Nat.le_trans (PySem.tupleText_len_le _) ?_
    rw [h2]
    omega
  | _, _, .lst _ r, q, h => by
    rw [D.py] at q
    rw [D.toPy, PyData.showable] at h
    obtain ⟨h1, h2⟩ := Reps.wt r q h
    rw [D.toPy, D.wt, PyData.shown]
    refine Nat.le_trans (listText_le _) ?_
    rw [h2]
    omega
  | _, _, .dK _ _ _, q, _ => by rw [D.py] at q; cases q
  | _, _, .dT _ _ _, q, _ => by rw [D.py] at q; cases q
  | _, _, .scr _, _, h => by
    rw [D.toPy, PyData.showable] at h
    obtain ⟨h1, h2⟩ := ints_shown h
    rw [D.toPy, D.wt, PyData.shown]
    refine Nat.le_trans (listText_le _) ?_
    rw [h2]
    omega
  | _, _, .rp _, q, _ => by rw [D.py] at q; cases q
  | _, _, .ty _, q, _ => by rw [D.py] at q; cases q
  | _, _, .key _ a, _, h => by
    rw [D.toPy, PyData.showable] at h
    obtain ⟨h1, h2⟩ := keys_shown a h
    rw [D.toPy, D.wt, PyData.shown]
    refine Nat.le_trans (PySem.tupleText_len_le _) ?_
    rw [h2]
    omega
theorem Reps.wt {K : PySem.W.Frag} {F : Hp} : ∀ {vs : List V} {ds : List D}, Reps K F vs ds → pyL ds = true → PyData.showableAll (toPyL ds) = true → ((PyData.shownAll (toPyL ds)).map (·.length)).sum ≤ wtL ds ∧ (PyData.shownAll (toPyL ds)).length = ds.length
  | _, _, .nil, _, _ => by rw [toPyL, PyData.shownAll, wtL]; exact ⟨Nat.le_refl _, rfl⟩
  | _, _, .cons r t, q, h => by
    rw [pyL, Bool.and_eq_true] at q
    rw [toPyL, PyData.showableAll, Bool.and_eq_true] at h
    have h1 := Rep.wt r q.1 h.1
    obtain ⟨h2, h3⟩ := Reps.wt t q.2 h.2
    rw [toPyL, PyData.shownAll, wtL, List.map_cons, List.sum_cons, List.length_cons, List.length_cons, h3]
    exact ⟨by omega, rfl⟩
end
abbrev rReprU (K : PySem.W.Frag) : List V → Hp → VK → Prop := fun xs H Q => ∃ v p, xs = [v] ∧ Dp K H v p ∧ p.canLay0 = true ∧ p.showable = true ∧ p.depth ≤ 60 ∧ p.shown.length ≤ sizeLine ∧ Q (.str p.shown) H
theorem cr_repr {X : Cx} (hg : X.A.guards = some []) (hu : X.A.units + 65 < cLine) : CallR X (.builtin "repr") (rReprU X.K) := by
  intro pins s σ H xs us Q I r h
  obtain ⟨v, p, rfl, dp, lay, sh, dep, len, q⟩ := h
  obtain ⟨u, rfl, ru⟩ := vals1 r
  cases dp with
  | non => cases ru; exact PySem.P.repr_of_none ⟨.str _, H, I.tok _, ⟨_, rfl⟩, q⟩
  | bl b => cases ru; exact PySem.P.repr_of_bool ⟨.str _, H, I.tok _, ⟨_, rfl⟩, q⟩
  | int i => obtain ⟨t, rfl⟩ := ru; exact PySem.P.repr_of_int (by rw [PyData.showable, decide_eq_true_eq] at sh; exact sh) ⟨.str _, H, I.tok _, ⟨_, rfl⟩, q⟩
  | str x => obtain ⟨t, rfl⟩ := ru; exact PySem.P.repr_of_str ⟨.str _, H, I.tok _, ⟨_, rfl⟩, q⟩ len
  | lst a b =>
    obtain ⟨as, rd⟩ := Dp.reads I _ _ _ (.lst a b) ru
    cases ru
    exact repr_of_reads' rd sh (PyData.noDict_hsm (PyData.hasDict_of_canLay _ lay)) hg (by omega) (fun _ _ e => e) (fun h' u tk hk => ⟨.str _, H, I.kept hk, ⟨_, rfl⟩, q⟩) len
  | tup a b =>
    obtain ⟨as, rd⟩ := Dp.reads I _ _ _ (.tup a b) ru
    cases ru
    exact repr_of_reads' rd sh (PyData.noDict_hsm (PyData.hasDict_of_canLay _ lay)) hg (by omega) (fun _ _ e => e) (fun h' u tk hk => ⟨.str _, H, I.kept hk, ⟨_, rfl⟩, q⟩) len
theorem s_repr {K : PySem.W.Frag} : OpN K .leaf (rReprU K) (one reprD) := by
  refine s_one fun F H x d z Q sm h e ok => ?_
  unfold reprD at e
  split at e
  · rename_i c
    cases e
    unfold reprOk at c
    rw [Bool.and_eq_true, Bool.and_eq_true, Bool.and_eq_true, decide_eq_true_eq, decide_eq_true_eq] at c
    obtain ⟨⟨⟨c1, c2⟩, c3⟩, c4⟩ := c
    obtain ⟨dp, lay⟩ := (h.whole sm (py_nod c1)).dp c1
    have wt := (h.whole sm (py_nod c1)).wt c1 c2
    exact ⟨x, _, rfl, dp, lay, c2, c3, line_ok (Nat.le_trans wt c4), ok.here sm (.rp _)⟩
  · cases e
end VL
/-! V12: dict displays. -/
namespace VL
open PySem PySem.Spec L2

def OkPs (b : Bd) (F H : Hp) (fp : List Addr) (σ : St) (Q : List (V × V) → Hp → Prop) : R (List (Key × D)) → Prop
  | .no => False
  | .ok ds ρ' => ∀ (kvs : List (Key × V)) F' H' fp', Rel b.K b.ks F' H' ρ' σ fp' → Ext F H fp F' H' fp' → kvs.map Prod.fst = ds.map Prod.fst → Reps b.K F' (kvs.map Prod.snd) (ds.map Prod.snd) → Q (kvs.map fun kv => (kV kv.1, kv.2)) H'
  | .ex e ρ' => OkX b F H fp σ e ρ'
theorem OkPs.ext {b : Bd} {F H F1 H1 : Hp} {fp f1 : List Addr} {σ : St} {Q : List (V × V) → Hp → Prop} (a : Ext F H fp F1 H1 f1) : ∀ {r : R (List (Key × D))}, OkPs b F H fp σ Q r → OkPs b F1 H1 f1 σ Q r
  | .no, h => h
  | .ok d ρ', h => fun v F' H' fp' r x => h v F' H' fp' r (a.trans x)
  | .ex e ρ', h => OkX.ext a h
structure EPs (X : Cx) (ks : List Sh) (W : WX) (pos : Pos) (keys : List (Option Expr)) (values : List Expr) (trs : List (TE × TE)) (m : DEnv → R (List (Key × D))) : Prop where
  pe : PPs X pos keys values trs
  sd : ∀ ρ σ F H fp Q, Rel X.K ks F H ρ σ fp → OkPs (bd X ks W) F H fp σ Q (m ρ) → tPairs trs σ H Q
section
variable {X : Cx} {ks : List Sh} {W : WX} {pos : Pos} {keys : List (Option Expr)} {values : List Expr} {trs : List (TE × TE)} {m : DEnv → R (List (Key × D))} {k v : Expr} {tk tv : TE} {mk mv : ME}
def mPNil : DEnv → R (List (Key × D)) := fun ρ => .ok [] ρ
def mPCons (mk mv : ME) (mr : DEnv → R (List (Key × D))) : DEnv → R (List (Key × D)) := fun ρ => (mk ρ).bind fun k ρ1 => (mv ρ1).bind fun v ρ2 => (mr ρ2).bind fun r ρ3 => match keyK k with
  | some q => .ok ((q, v) :: r) ρ3
  | none => .no
theorem eps_nil : EPs X ks W pos [] [] [] mPNil := ⟨pps_nil, fun ρ σ F H fp Q r h => h [] F H fp r .refl rfl .nil⟩
theorem eps_cons (hk : EV X ks W k .leaf tk mk) (hv : EV X ks W v .leaf tv mv) (hr : EPs X ks W pos keys values trs m) : EPs X ks W pos (some k :: keys) (v :: values) ((tk, tv) :: trs) (mPCons mk mv m) := by
  refine ⟨pps_cons hk.pe hv.pe hr.pe, fun ρ σ F H fp Q r hok => ?_⟩
  unfold mPCons at hok
  refine hk.sd.go r (Ok := OkPs (bd X ks W) F H fp σ Q) hok (fun z => z) (fun _ _ z => z) fun kd ρ1 x F1 H1 fp1 h1 r1 x1 p1 => ?_
  refine hv.sd.go r1 (Ok := OkPs (bd X ks W) F1 H1 fp1 σ Q) (h1.ext x1) (fun z => z) (fun _ _ z => z) fun vd ρ2 y F2 H2 fp2 h2 r2 x2 p2 => ?_
  refine hr.sd ρ2 σ F2 H2 fp2 _ r2 ?_
  have h3 := h2.ext x2
  cases em : m ρ2 with
  | no => rw [em] at h3; exact h3
  | ex e ρ3 => rw [em] at h3; exact h3
  | ok ds ρ3 =>
    rw [em] at h3
    intro kvs F' H' fp' r' x' ek rk
    cases q : keyK kd with
    | none => rw [R.bind_ok, q] at h3; exact (show False from h3).elim
    | some kk =>
      rw [R.bind_ok, q] at h3
      have e1 := keyKE (F := F1) (H := F1) (.rep p1) q
      subst e1
      exact h3 ((kk, y) :: kvs) F' H' fp' r' x' (by rw [List.map_cons, List.map_cons, ek]) (.cons (p2.mono (r2.same x')) rk)
def putAll (ds more : List (Key × D)) : List (Key × D) := more.foldl (fun acc kv => put acc kv.1 kv.2) ds
theorem merge_rel {K : PySem.W.Frag} {F : Hp} : ∀ {more : List (Key × V)} {mds : List (Key × D)} {kvs : List (Key × V)} {ds : List (Key × D)}, more.map Prod.fst = mds.map Prod.fst → Reps K F (more.map Prod.snd) (mds.map Prod.snd) →
    kvs.map Prod.fst = ds.map Prod.fst → Reps K F (kvs.map Prod.snd) (ds.map Prod.snd) → (mergeK kvs more).map Prod.fst = (putAll ds mds).map Prod.fst ∧ Reps K F ((mergeK kvs more).map Prod.snd) ((putAll ds mds).map Prod.snd)
  | [], [], _, _, _, _, e, r => ⟨e, r⟩
  | [], _ :: _, _, _, h, _, _, _ => by cases h
  | _ :: _, [], _, _, h, _, _, _ => by cases h
  | x :: more, y :: mds, kvs, ds, h, q, e, r => by
    have e1 : x.1 = y.1 := (List.cons.inj h).1
    cases q with
    | cons q1 q2 =>
      have h2 := merge_rel (kvs := putK kvs x.1 x.2) (ds := put ds y.1 y.2) (List.cons.inj h).2 q2 (by rw [e1]; exact put_keys _ _ _ e) (by rw [e1]; exact put_reps _ q1 e r)
      exact h2
def mDisp (m : DEnv → R (List (Key × D))) : ME := fun ρ => (m ρ).bind fun ds ρ1 => if ds.length ≤ 15 then .ok (.dK (putAll [] ds)) ρ1 else .no
theorem ev_disp (h : EPs X ks W pos keys values trs m) (hall : keys.all (·.isSome) = true := by rfl) (hl : keys.length = values.length := by rfl) (h0 : keys ≠ [] := by intro z; cases z) (h15 : keys.length ≤ 15 := by decide) : EV X ks W (.Dict keys values pos) (.dic .leaf) (tDisp trs) (mDisp m) := by
  refine ⟨pe_disp h.pe hall hl h0 h15, fun ρ σ F H fp Q r hok p np => ?_⟩
  have nF : F p = none := by
    cases e : F p with
    | none => rfl
    | some y => have q := r.sub _ _ e; rw [np] at q; cases q
  obtain ⟨r1, nd1, x1⟩ := (upd_alcH (o := .dK []) r.sub np).rel (fv := [p]) r (fun y m => by simp at m; subst m; exact np) (by simp)
  have x1' : Ext F H fp F (upd H p (.dK [])) fp := x1.sub fun y m => List.mem_append_left _ m
  have pfp : p ∉ fp := fun m => by obtain ⟨_, o, ho⟩ := r.sl.own p m; rw [np] at ho; cases ho
  refine h.sd ρ σ F _ fp _ r1 ?_
  unfold mDisp at hok
  cases em : m ρ with
  | no => rw [em] at hok; exact (show False from hok).elim
  | ex e ρ3 => rw [em] at hok; exact OkX.ext x1' (show OkX (bd X ks W) F H fp σ e ρ3 from hok)
  | ok ds ρ3 =>
    rw [em, R.bind_ok] at hok
    refine fun kvs F2 H2 fp2 r2 x2 ek rk => ?_
    by_cases hl : ds.length ≤ 15
    · rw [if_pos hl] at hok
      obtain ⟨k1, k2⟩ := x2.keep p _ upd_same pfp
      have lk : kvs.length = ds.length := by have := congrArg List.length ek; simpa using this
      refine ⟨k1, kvs, rfl, by omega, ?_⟩
      obtain ⟨m1, m2⟩ := merge_rel (kvs := []) (ds := []) ek rk rfl .nil
      have pn : p ∉ fp2 := fun m => by
        rcases x2.fr p m with z | z
        · exact pfp z
        · rw [upd_same] at z; cases z
      have nF2 : F2 p = none := k2.trans nF
      have xx := x1'.trans x2
      refine hok (.ref p) F2 _ fp2 [p] ⟨sub_updH r2.sub nF2 (by intro _ z; cases z), r2.nd, r2.sl.frame (fun a o e => e) fun a m => ⟨(r2.sl.own a m).1, ?_⟩⟩ ?_ ⟨fun a o e n => ?_, fun a m => ?_⟩ (.dK nF2 upd_same m1 (ORs.ofReps m2))
      · have : a ≠ p := fun z => pn (z ▸ m)
        rw [upd_ne this]
      · refine List.nodup_append.mpr ⟨r2.nd, by simp, fun a m y m' z => ?_⟩
        simp at m'
        subst m' z
        exact pn m
      · have hne : a ≠ p := fun z => by rw [z, np] at e; cases e
        obtain ⟨q1, q2⟩ := xx.keep a o e n
        rw [upd_ne hne]
        exact ⟨q1, q2⟩
      · rcases List.mem_append.mp m with m | m
        · exact xx.fr a m
        · simp at m; subst m; exact .inr np
    · rw [if_neg hl] at hok; exact (show False from hok).elim
end
end VL
/-! V13: the law's door. -/
namespace VL
open PySem PySem.Spec L2
open PyProof.Rows (IntsAre AllBare IntsAre AllBare)


abbrev scrOb (us : List Value) : Obj := { cls := .type "list", data := .seq us.toArray }
/-- at the door nothing is followed but the script, and it only where the module has not made it -/
def door (K : PySem.W.Frag) (z : Addr) (us : List Value) (ms : List Int) : Hp := fun y => if (K.lookup z).isNone = true ∧ y = z then some (.frz (scrOb us) (.lst (ms.map V.int))) else none
section
variable {P : Program} {w : World} {K : PySem.W.Frag} {z : Addr} {us : List Value} {ms : List Int} {h : Heap}
theorem door_some {y : Addr} {u : HO} (e : door K z us ms y = some u) : K.lookup z = none ∧ y = z ∧ u = .frz (scrOb us) (.lst (ms.map V.int)) := by
  unfold door at e
  split at e
  · rename_i q
    cases e
    exact ⟨Option.isNone_iff_eq_none.mp q.1, q.2, rfl⟩
  · cases e
theorem door_else {y : Addr} (n : y ≠ z) : door K z us ms y = none := if_neg fun q => n q.2
theorem vals_of_ints : ∀ {l : List Value} {i : List Int}, IntsAre l i → Vals (i.map V.int) l
  | _, _, .nil => .nil
  | _, _, .cons _ _ r => .cons ⟨_, rfl⟩ (vals_of_ints r)
theorem door_seq (hK : K.In h) (hz : h.get? z = some (scrOb us)) (hi : IntsAre us ms) (hl : ms.length ≤ sizeLine) : SqL K (door K z us ms) z (ms.map V.int) := by
  have sz : us.length = ms.length := hi.length
  cases q : K.lookup z with
  | none => exact .inl (.inr ⟨scrOb us, if_pos ⟨by rw [q]; rfl, rfl⟩⟩)
  | some o =>
    have e := (hK z o q).symm.trans hz
    cases e
    exact .inr ⟨_, us.toArray, _, q, rfl, rfl, rfl, by rw [List.size_toArray, sz]; exact hl, by simpa using vals_of_ints hi⟩
theorem door_ok (hz : h.get? z = some (scrOb us)) (hi : IntsAre us ms) (hl : ms.length ≤ sizeLine) : HOk P w (door K z us ms) h := fun y u e => by
  obtain ⟨_, rfl, rfl⟩ := door_some e
  exact ⟨hz, by rw [List.length_map]; exact hl, us, _, vals_of_ints hi, hz⟩
/-- what the module has made, and each namespace, stands untold -/
theorem door_in (hK : K.In h) : K.In (hidT h (door K z us ms)) := fun y o e => hidT_get (hK y o e) (by
  cases q : door K z us ms y with
  | none => rfl
  | some u => obtain ⟨k, rfl, _⟩ := door_some q; rw [k] at e; cases e)
theorem door_ns (hz : h.get? z = some (scrOb us)) {y : Addr} {m : Str → Option Value} (n : h.Ns y m) : (hidT h (door K z us ms)).Ns y m := by
  obtain ⟨o, es, ep, e, d, r⟩ := n
  refine ⟨o, es, ep, hidT_get e (door_else fun q => ?_), d, r⟩
  rw [q, hz] at e
  cases e
  cases (show Data.seq us.toArray _ = Data.dict es ep from d)
/-- the call of the law's def, from its promise -/
theorem door_call {mg mb : Str → Option Value} {CX : CXT} {k : Nat} {fa : Addr} {fd : FuncData} {x : Str} {sp : Sp} {t : Shared} (hK : K.In t.heap) (hg : t.heap.Ns mainGlobals mg) (hb : t.heap.Ns builtinsNs mb) (hbb : ∀ y : Str, y ≠ "__name__" → mb y = bootBuiltins y)
    (hm : t.heap.NoLimit) (hgens : t.gens = #[]) (hz : t.heap.get? z = some (scrOb us)) (hi : IntsAre us ms) (hl : ms.length ≤ sizeLine) (hr : Room k callerA)
    (G : ∀ b : Heap, K.In b → b.Ns mainGlobals mg → FnG P w K mg b CX k fa fd [x] sp) (hbind : ∀ (s : Shared) (u : Value), BindsTo s fd ⟨[u], []⟩ [(x, u)])
    (hsp : ∀ H : Hp, SqL K H z (ms.map V.int) → sp [.ref z] H (fun v _ => v = .bl true) fun _ _ _ => False) (hCX : ∀ H e s', CX [] H t (fun _ _ _ => False) e s' → False) :
    codeAny (model P w) callerA (.call (.ref fa) ⟨[.ref z], []⟩) (fun r s' => r = .ok (.ret (.bool true)) ∧ OldK t.heap s'.heap ∧ s'.os = t.os ∧ AllBare s'.gens) t := by
  have e0 : Env0 P w K mg (hidT t.heap (door K z us ms)) callerA [] t (door K z us ms) :=
    { frames := rfl
      mod := ⟨door_in hK, door_ns hz hg, ⟨mb, door_ns hz hb, hbb⟩, let ⟨mc, q1, q2⟩ := hm; ⟨mc, door_ns hz q1, q2⟩⟩
      bs := fun _ _ e => of_hidT e
      bsz := Nat.le_of_eq (hidT_size _ _)
      funs := trivial
      frf := fun y m => absurd (show y ∈ ([] : List Addr) from m) (by simp)
      hok := door_ok hz hi hl
      bare := .of_eq hgens }
  have run := (G _ (door_in hK) (door_ns hz hg)).run callerA [] t (door K z us ms) ⟨[.ref z], []⟩ [.ref z] [.ref z] _ _ hr rfl e0 (hbind t (.ref z)) (.cons rfl .nil) (hsp _ (door_seq hK hz hi hl))
  refine codeAny_mono run fun r s' c => ?_
  match r, c with
  | .error e, c => exact (hCX _ e s' c).elim
  | .ok .next, c => exact False.elim c
  | .ok .brk, c => exact False.elim c
  | .ok .cont, c => exact False.elim c
  | .ok (.ret u), c =>
    obtain ⟨v, J, os, bare, un, okJ, ru, qv⟩ := c
    have qv : v = .bl true := qv
    subst qv
    cases (show u = Value.bool true from ru)
    refine ⟨rfl, OldK.of_keep fun y o e => ?_, os, bare⟩
    cases q : door K z us ms y with
    | none => exact un.keep y o e q (fun m => absurd (show y ∈ ([] : List Addr) from m) (by simp)) (by simp)
    | some u =>
      obtain ⟨_, rfl, rfl⟩ := door_some q
      rw [hz] at e
      cases e
      exact (okJ _ _ (un.frzs _ _ _ q)).1
end
/-- what a law's def must come to -/
theorem spV_law {K : PySem.W.Frag} {mg : Str → Option Value} {g : List D → R D} {H : Hp} {z : Addr} {ms : List Int} (hS : SqL K H z (ms.map V.int)) (hg : ∃ ρ, g [.scr ms] = .ok (.bl true) ρ) :
    spV K mg 1 [.leaf] 0 .leaf g [.ref z] H (fun v _ => v = .bl true) fun _ _ _ => False := by
  obtain ⟨ρ, e⟩ := hg
  refine ⟨rfl, H, [], [.scr ms], ⟨⟨fun _ _ e => e, fun _ _ e => e⟩, List.nodup_nil, RelL.som (f := []) (fp := []) (.leaf (.scr hS)) .nil⟩, ?_⟩
  rw [e]
  intro v F' H' fp' fv _ _ _ o
  obtain ⟨r, _⟩ := o.leafE
  cases r
  rfl
/-- the goal behind the top, from the law's promise -/
theorem walk_V {l : PySem.W.OpenLaw} {n k : Nat} {q : Program} {loose : List Str} {XP : (Str → Option Value) → Heap → Prop} {YP : World → Heap → Prop} {d : DefRec} {K : Params → PySem.W.Frag} {CX : World → CXT} {x : Str} {g : World → (Str → Option Value) → List D → R D}
    (hn : l.most = some n) (hn2 : n ≤ sizeLine) (hdf : d.params.defaults = []) (hr : Room k callerA) (hY : ∀ (w : World) (h : Heap), YP w h → (K w.params).In h)
    (F : ∀ (w : World) (mg : Str → Option Value) (fa : Addr) (h : Heap), (K w.params).In h → h.Ns mainGlobals mg → mg d.name = some (.ref fa) →
      ∃ fd : FuncData, (∀ (s : Shared) (u : Value), BindsTo s fd ⟨[u], []⟩ [(x, u)]) ∧ ∀ b : Heap, (K w.params).In b → b.Ns mainGlobals mg → FnG l.prog w (K w.params) mg b (CX w) k fa fd [x] (spV (K w.params) mg 1 [.leaf] 0 .leaf (g w mg)))
    (hg : ∀ (w : World) (mg : Str → Option Value) (ms : List Int), ms.length ≤ n → ∃ ρ, g w mg [.scr ms] = .ok (.bl true) ρ) (hCX : ∀ (w : World) (H : Hp) (s : Shared) (e : Value) (s' : Shared), CX w [] H s (fun _ _ _ => False) e s' → False) :
    PySem.W.WalkO q loose XP YP l.row.toRowW d [] (fun f vs => PySem.call f vs) := by
  refine Att.attach_call hn hdf fun w s₀ t mg mb fa o pm cd doc z us ms G Y ho hd hcd hmg hobj hints hlen hgens => ?_
  have KX := hY w _ Y
  obtain ⟨fd, hb, hF⟩ := F w mg fa _ KX G.T.g hmg
  exact door_call KX G.T.g G.T.b G.T.builtins G.T.nolimit hgens hobj hints (Nat.le_trans hlen hn2) hr hF hb (fun H hS => spV_law hS (hg w mg ms hlen)) fun H e s' => hCX w H t e s'
end VL
/-! V14: chains, a slot's thing handed on, more. -/
namespace VL
open PySem PySem.Spec L2

section
variable {X : Cx} {ks : List Sh} {W : WX} {a b c : Expr} {ta tb tc : TE} {m n o : ME} {pos : Pos} {r r' : R2} {f g : D → D → Option D}
/-- a op1 b op2 c -/
def mChain (f g : D → D → Option D) (m n o : ME) : ME := fun ρ => (m ρ).bind fun d ρ1 => (n ρ1).bind fun e ρ2 => match f d e with
  | some (.bl true) => (o ρ2).bind fun z ρ3 => R.of (g e z) ρ3
  | some (.bl false) => .ok (.bl false) ρ2
  | _ => .no
/-! ### a slot's owned thing handed on: the slot is not looked at again -/
def mMove (i : Nat) : ME := fun ρ => (R.of (own ρ i) ρ).bind fun d _ => .ok d (ρ.set i none)
end
theorem Cl.mono {X : Cx} {CX : CXT} {j k : Nat} {x : Str} {n : Nat} {psh : List Sh} {fx : Nat} {rsh : Sh} {g : List D → R D} (c : Cl X CX j x n psh fx rsh g) (h : j ≤ k) : Cl X CX k x n psh fx rsh g := by
  obtain ⟨f, fd, ps, G, hm, hk, hb⟩ := c.ex
  exact ⟨f, fd, ps, G.mono h, hm, hk, hb⟩
/-- .. without a context: P, w, K, mg, base -/
structure Clp (P : Program) (w : World) (K : PySem.W.Frag) (mg : Str → Option Value) (base : Heap) (CX : CXT) (k : Nat) (x : Str) (n : Nat) (psh : List Sh) (fx : Nat) (rsh : Sh) (g : List D → R D) : Prop where
  ex : ∃ f fd ps, FnG P w K mg base CX k f fd ps (spV K mg n psh fx rsh g) ∧ mg x = some (.ref f) ∧ PySem.W.keepIn K (.ref f) = true ∧ Binds K fd ps []
theorem Clp.cl {P : Program} {w : World} {K : PySem.W.Frag} {mg : Str → Option Value} {base : Heap} {CX : CXT} {j k : Nat} {x : Str} {n : Nat} {psh : List Sh} {fx : Nat} {rsh : Sh} {g : List D → R D} (c : Clp P w K mg base CX j x n psh fx rsh g) (h : j ≤ k)
    {X : Cx} (h1 : X.prog = P) (h2 : X.w = w) (h3 : X.K = K) (h4 : X.mg = mg) (h5 : X.base = base) : Cl X CX k x n psh fx rsh g := by
  subst h1 h2 h3 h4 h5
  obtain ⟨f, fd, ps, G, hm, hk, hb⟩ := c.ex
  exact ⟨f, fd, ps, G.mono h, hm, hk, hb⟩
theorem hu65 {A : Around} {k : Nat} (r : Room k A) : A.units + 65 < cLine := by have := r.un; omega
theorem hu64 {A : Around} {k : Nat} (r : Room k A) : A.units + 64 < cLine := by have := r.un; omega
theorem hu1 {A : Around} {k : Nat} (r : Room k A) : A.units + 1 < cLine := by have := r.un; omega
end VL
/-! V15: names for mirrors; small rules for the printed proofs. -/
namespace VL
open PySem PySem.Spec L2

def mV (m : ME) : MO := fun ρ => (m ρ).bind fun d ρ1 => .ok (.v d) ρ1
def mS (i : Nat) : MO := fun ρ => (R.of ((ρ[i]?).bind id) ρ).bind fun _ ρ1 => .ok (.s i) ρ1
def mLs (m : ME) : MA := fun ρ => (m ρ).bind asL
def mTs (m : ME) : MA := fun ρ => (m ρ).bind asT
def mSs (m : ME) : MA := fun ρ => (m ρ).bind asS
def mR1 (m : MA) : MA := fun ρ => (m ρ).bind mRng1
def mR2 (m : MA) : MA := fun ρ => (m ρ).bind mRng2
def mLoop (k : D → DEnv → Option DEnv) (mb : MS) (ma : MA) : MS := fun ρ => (ma ρ).bind fun ds ρ1 => mFor k mb ds ρ1
def mM1 (f : D → D → Option D) (m : ME) (mp : MO) : ME := fun ρ => (m ρ).bind fun d ρ1 => (match d with | .str x => (mp ρ1).bind fun o ρ2 => R.of ((o.get ρ2).bind fun e => f (.str x) e) ρ2 | _ => .no)
def nnx (m : MS) : Prop := ∀ ρ ρ', m ρ ≠ .ok .nx ρ'
theorem nnx_ret (m : ME) : nnx (mRet m) := fun ρ ρ' h => by
  unfold mRet at h
  cases e : m ρ with
  | no => rw [e] at h; cases h
  | ex x ρ1 => rw [e] at h; cases h
  | ok d ρ1 => rw [e] at h; cases h
theorem hk1 {ks : List Sh} {i : Nat} (h : ks[i]? = some .leaf) : ∀ v ∈ [i], ks[v]? = some .leaf := fun v m => by
  cases List.mem_singleton.mp m; exact h
theorem clp_of {P : Program} {w : World} {K : PySem.W.Frag} {mg : Str → Option Value} {base : Heap} {CX : CXT} {k n : Nat} {f : Addr} {fd : FuncData} {ps : List Str} {psh : List Sh} {fx : Nat} {rsh : Sh} {g : List D → R D} {x : Str}
    (G : FnG P w K mg base CX k f fd ps (spV K mg n psh fx rsh g)) (hm : mg x = some (.ref f)) (hk : PySem.W.keepIn K (.ref f) = true) (hb : Binds K fd ps []) : Clp P w K mg base CX k x n psh fx rsh g := ⟨f, fd, ps, G, hm, hk, hb⟩
end VL
namespace VL
open PySem PySem.Spec L2
/-! ### the rules with the module's part named (within a comprehension's block it must not hang on the block) -/
section
variable {X : Cx} (K : PySem.W.Frag) (hK : X.K = K)
include hK
theorem k_eq (hu : X.A.units + 65 < cLine) : OpR X (compareOp .Eq) (rEqU K) := hK ▸ op_eqU hu
theorem k_ne (hu : X.A.units + 65 < cLine) : OpR X (compareOp .NotEq) (rNeU K) := hK ▸ op_neU hu
theorem k_in (hu : X.A.units + 64 < cLine) : OpR X (compareOp .In) (rInU K false) := hK ▸ op_inU hu
theorem k_add : OpR X (binaryOp .Add) (rAddA K) := hK ▸ op_addA
theorem k_mul : OpR X (binaryOp .Mult) (rMulA K) := hK ▸ op_mulA
theorem k_ix (hu : X.A.units + 1 < cLine) : IxR X (rIxA K) := hK ▸ ix_all hu
theorem k_sl : SlR X (rSlU K) := hK ▸ sl_all
theorem k_len : CallR X (.builtin "len") (rLenU K) := hK ▸ cr_len
theorem k_repr (hg : X.A.guards = some []) (hu : X.A.units + 65 < cLine) : CallR X (.builtin "repr") (rReprU K) := hK ▸ cr_repr hg hu
abbrev rListOf (K : PySem.W.Frag) : List V → Hp → VK → Prop := fun xs H Q => ∃ p ys, xs = [.ref p] ∧ (SqL K H p ys ∨ SqT K H p ys) ∧ ∀ l, H l = none → Q (.ref l) (upd H l (.lst ys))
theorem k_listOf : CallR X (.type "list") (rListOf K) := hK ▸ call_list_of
end
section
variable {X : Cx} {ks : List Sh} {W : WX} {CX : CXT} {k n : Nat} {rsh s0 : Sh} {g : List D → R D} {x : Str} {p pos : Pos} {e a : Expr} {es : List Expr} {t : TA} {ma : MA} {ta te : TE} {me : ME} {tg : Expr} (K : PySem.W.Frag) (hK : X.K = K)
include hK
theorem kv_tupleOf {mo : MO} (ha : EO X ks W a ta mo) (hm : X.mg "tuple" = none) (hg : Gl X "tuple" := by rfl) (na : starEach [a] X.env = (false, eval a X.env) :: starEach [] X.env := by rfl) :
    EV X ks W (.Call (.Name "tuple" p) [a] [] pos) .leaf (tThen ta (kTupF K)) (mOp1 tupleD mo) := by subst hK; exact ev_tupleOf ha hm hg na
theorem kv_call0 (mg : Str → Option Value) (hmg : X.mg = mg) (c : Cl X CX k x n (leaves n) 0 rsh g) (hx : ∀ σ, PassesAt CX X σ (WE W σ)) (hr : Room k X.A) (hgd : X.A.guards = some []) (ha : EA X ks W (e :: es) t ma) (hg : Gl X x := by rfl) (hdb : (x == ("__debug__" : Str)) = false := by decide)
    (he : starEach (e :: es) X.env = (false, eval e X.env) :: starEach es X.env := by rfl) (hpl : (backTo pos (starEach es X.env)).any (·.1) = false := by rfl) : EV X ks W (.Call (.Name x p) (e :: es) [] pos) rsh (tCallS (spV K mg n (leaves n) 0 rsh g) (WE W) t) (mCall0 n g ma) := by
  subst hK hmg; exact ev_call0 c hx hr hgd ha hg hdb he hpl
theorem kv_call1 {y : Str} {p' : Pos} (mg : Str → Option Value) (hmg : X.mg = mg) (i : Nat) (c : Cl X CX k x (n + 1) (s0 :: leaves n) 1 rsh g) (hx : ∀ σ, PassesAt CX X σ (WE W σ)) (hr : Room k X.A) (hgd : X.A.guards = some []) (ha : EA X ks W es t ma) (hky : ks[i]? = some s0 := by rfl) (hN : X.N[i]? = some y := by rfl)
    (hv : Vis X.env.scope y := by first | exact Or.inl rfl | exact Or.inr (Or.inl rfl) | exact Or.inr (Or.inr rfl)) (hd : (y == ("__debug__" : Str)) = false := by decide) (hcd : (y == ("__classdict__" : Str)) = false := by decide) (hg : Gl X x := by rfl) (hdb : (x == ("__debug__" : Str)) = false := by decide)
    (he : starEach (.Name y p' :: es) X.env = (false, eval (.Name y p') X.env) :: starEach es X.env := by rfl) (hpl : (backTo pos (starEach es X.env)).any (·.1) = false := by rfl) :
    EV X ks W (.Call (.Name x p) (.Name y p' :: es) [] pos) rsh (tCallS (spV K mg (n + 1) (s0 :: leaves n) 1 rsh g) (WE W) (tCons (tVar i) t)) (mCall1 i n g ma) := by
  subst hK hmg; exact ev_call1 i c hx hr hgd ha hky hN hv hd hcd hg hdb he hpl
end
end VL
/-! V16: reading mirrors. -/
namespace VL
open PySem PySem.Spec L2

section
variable (ρ : DEnv) (i j : Nat) (m n o : ME) (a b c : MO) (d : D)
@[simp] theorem e_var : mVar i ρ = R.of ((ρ[i]?).bind id) ρ := rfl
@[simp] theorem e_C : mC d ρ = .ok d ρ := rfl
@[simp] theorem e_V : mV m ρ = (m ρ).bind fun d ρ1 => .ok (.v d) ρ1 := rfl
@[simp] theorem e_S : mS i ρ = (R.of ((ρ[i]?).bind id) ρ).bind fun _ ρ1 => .ok (.s i) ρ1 := rfl
@[simp] theorem e_getv : (Opd.v d).get ρ = some d := rfl
@[simp] theorem e_gets : (Opd.s i).get ρ = (ρ[i]?).bind id := rfl
@[simp] theorem e_own : own ρ i = (ρ[i]?).bind id := rfl
@[simp] theorem e_op1 (f : D → Option D) : mOp1 f a ρ = (a ρ).bind fun x ρ1 => R.of ((x.get ρ1).bind f) ρ1 := rfl
@[simp] theorem e_op2 (f : D → D → Option D) : mOp2 f a b ρ = (a ρ).bind fun x ρ1 => (b ρ1).bind fun y ρ2 => R.of ((x.get ρ2).bind fun d => (y.get ρ2).bind fun e => f d e) ρ2 := rfl
@[simp] theorem e_opN (f : List D → Option D) (t : DEnv → R (List Opd)) : mOpN f t ρ = (t ρ).bind fun xs ρ1 => R.of ((getAll xs ρ1).bind f) ρ1 := rfl
@[simp] theorem e_getA0 : getAll [] ρ = some [] := rfl
@[simp] theorem e_getA (x : Opd) (xs : List Opd) : getAll (x :: xs) ρ = (x.get ρ).bind fun d => (getAll xs ρ).bind fun ds => some (d :: ds) := rfl
@[simp] theorem e_oNil : mONil ρ = .ok [] ρ := rfl
@[simp] theorem e_oCons (t : DEnv → R (List Opd)) : mOCons a t ρ = (a ρ).bind fun d ρ1 => (t ρ1).bind fun ds ρ2 => .ok (d :: ds) ρ2 := rfl
@[simp] theorem e_nil : mNil ρ = .ok [] ρ := rfl
@[simp] theorem e_cons (t : MA) : mCons m t ρ = (m ρ).bind fun d ρ1 => (t ρ1).bind fun ds ρ2 => .ok (d :: ds) ρ2 := rfl
@[simp] theorem e_tup (t : MA) : mTup t ρ = (t ρ).bind fun ds ρ1 => if ds.length ≤ 16777216 then .ok (.tup ds) ρ1 else .no := rfl
@[simp] theorem e_lst (t : MA) : mLst t ρ = (t ρ).bind fun ds ρ1 => if ds.length ≤ 16777216 then .ok (.lst ds) ρ1 else .no := rfl
@[simp] theorem e_test : mTest m ρ = (m ρ).bind asB := rfl
@[simp] theorem e_asB (k : Bool) : asB (.bl k) ρ = .ok k ρ := rfl
@[simp] theorem e_not (t : MT) : mNot t ρ = (t ρ).bind fun c ρ1 => .ok (!c) ρ1 := rfl
@[simp] theorem e_and (t u : MT) : mAnd t u ρ = (t ρ).bind fun c ρ1 => if c = true then u ρ1 else .ok false ρ1 := rfl
@[simp] theorem e_or (t u : MT) : mOr t u ρ = (t ρ).bind fun c ρ1 => if c = true then .ok true ρ1 else u ρ1 := rfl
@[simp] theorem e_andV : mAndV m n ρ = ((m ρ).bind asB).bind fun c ρ1 => if c = true then n ρ1 else .ok (.bl false) ρ1 := rfl
@[simp] theorem e_orV : mOrV m n ρ = ((m ρ).bind asB).bind fun c ρ1 => if c = true then .ok (.bl true) ρ1 else n ρ1 := rfl
@[simp] theorem e_notV : mNotV m ρ = ((m ρ).bind asB).bind fun c ρ1 => .ok (.bl (!c)) ρ1 := rfl
@[simp] theorem e_if (t : MT) : mIf t m n ρ = (t ρ).bind fun k ρ1 => if k = true then m ρ1 else n ρ1 := rfl
@[simp] theorem e_chain (f g : D → D → Option D) : mChain f g m n o ρ = (m ρ).bind fun d ρ1 => (n ρ1).bind fun e ρ2 => match f d e with
  | some (.bl true) => (o ρ2).bind fun z ρ3 => R.of (g e z) ρ3
  | some (.bl false) => .ok (.bl false) ρ2
  | _ => .no := rfl
@[simp] theorem e_sl (f : Option Int → Option Int → D → Option D) (l h : DEnv → R (Option Int)) : mSl f a l h ρ = (a ρ).bind fun o ρ1 => (l ρ1).bind fun i ρ2 => (h ρ2).bind fun j ρ3 => R.of ((o.get ρ3).bind (f i j)) ρ3 := rfl
@[simp] theorem e_noPart : mNoPart ρ = .ok none ρ := rfl
@[simp] theorem e_part : mPart m ρ = (m ρ).bind asI := rfl
@[simp] theorem e_asI (k : Int) : asI (.int k) ρ = .ok (some k) ρ := rfl
@[simp] theorem e_M1 (f : D → D → Option D) : mM1 f m b ρ = (m ρ).bind fun d ρ1 => (match d with | .str x => (b ρ1).bind fun o ρ2 => R.of ((o.get ρ2).bind fun e => f (.str x) e) ρ2 | _ => .no) := rfl
@[simp] theorem e_pNil : mPNil ρ = .ok [] ρ := rfl
@[simp] theorem e_pCons (t : DEnv → R (List (Key × D))) : mPCons m n t ρ = (m ρ).bind fun k ρ1 => (n ρ1).bind fun v ρ2 => (t ρ2).bind fun r ρ3 => match keyK k with
  | some q => .ok ((q, v) :: r) ρ3
  | none => .no := rfl
@[simp] theorem e_disp (t : DEnv → R (List (Key × D))) : mDisp t ρ = (t ρ).bind fun ds ρ1 => if ds.length ≤ 15 then .ok (.dK (putAll [] ds)) ρ1 else .no := rfl
@[simp] theorem e_move : mMove i ρ = (R.of (own ρ i) ρ).bind fun d _ => .ok d (ρ.set i none) := rfl
@[simp] theorem e_Ls : mLs m ρ = (m ρ).bind asL := rfl
@[simp] theorem e_Ts : mTs m ρ = (m ρ).bind asT := rfl
@[simp] theorem e_Ss : mSs m ρ = (m ρ).bind asS := rfl
@[simp] theorem e_asL (ds : List D) : asL (.lst ds) ρ = .ok ds ρ := rfl
@[simp] theorem e_asT (ds : List D) : asT (.tup ds) ρ = .ok ds ρ := rfl
@[simp] theorem e_asS (x : Str) : asS (.str x) ρ = .ok (signs x) ρ := rfl
@[simp] theorem e_R1 (t : MA) : mR1 t ρ = (t ρ).bind mRng1 := rfl
@[simp] theorem e_R2 (t : MA) : mR2 t ρ = (t ρ).bind mRng2 := rfl
@[simp] theorem e_rng1 (k : Int) : mRng1 [.int k] ρ = if -1000000 ≤ k ∧ k ≤ 1000000 then .ok (rangeD 0 k.toNat) ρ else .no := rfl
@[simp] theorem e_rng2 (k l : Int) : mRng2 [.int k, .int l] ρ = if -1000000 ≤ k ∧ k ≤ 1000000 ∧ -1000000 ≤ l ∧ l ≤ 1000000 then .ok (rangeD k (l - k).toNat) ρ else .no := rfl
@[simp] theorem e_call0 (k : Nat) (g : List D → R D) (t : MA) : mCall0 k g t ρ = (t ρ).bind fun ds ρ1 => if ds.length = k then (match g ds with | .ok d _ => .ok d ρ1 | .ex e _ => .ex e ρ1 | .no => .no) else .no := rfl
@[simp] theorem e_call1 (k : Nat) (g : List D → R D) (t : MA) : mCall1 i k g t ρ = (R.of (own ρ i) ρ).bind fun _ _ => (t ρ).bind fun ds ρ1 => (R.of (own ρ1 i) ρ1).bind fun d0 _ =>
  if ds.length = k then (match g (d0 :: ds) with | .ok d [some d1] => .ok d (ρ1.set i (some d1)) | .ex e [some d1] => .ex e (ρ1.set i (some d1)) | _ => .no) else .no := rfl
@[simp] theorem e_nx : mNx ρ = .ok .nx ρ := rfl
@[simp] theorem e_seq (s t : MS) : mSeq s t ρ = (s ρ).bind fun f ρ1 => match f with | .nx => t ρ1 | .rt d => .ok (.rt d) ρ1 := rfl
@[simp] theorem e_ifS (t : MT) (u v : MS) : mIfS t u v ρ = (t ρ).bind fun k ρ1 => if k = true then u ρ1 else v ρ1 := rfl
@[simp] theorem e_set : mSet i m ρ = (m ρ).bind fun d ρ1 => .ok .nx (ρ1.set i (some d)) := rfl
@[simp] theorem e_ret : mRet m ρ = (m ρ).bind fun d ρ1 => .ok (.rt d) ρ1 := rfl
@[simp] theorem e_drop : mDrop m ρ = (m ρ).bind fun _ ρ1 => .ok .nx ρ1 := rfl
@[simp] theorem e_put : mPut i m n ρ = (n ρ).bind fun v ρ1 => (R.of (own ρ1 i) ρ1).bind fun _ _ => (m ρ1).bind fun k ρ2 => (R.of ((own ρ2 i).bind fun d => putD d k v) ρ2).bind fun d' ρ3 => .ok .nx (ρ3.set i (some d')) := rfl
@[simp] theorem e_asg (k : D → DEnv → Option DEnv) : mAsg k m ρ = (m ρ).bind fun d ρ1 => match k d ρ1 with | some ρ2 => .ok .nx ρ2 | none => .no := rfl
@[simp] theorem e_kName : kName i d ρ = some (ρ.set i (some d)) := rfl
@[simp] theorem e_kNil : kNil [] ρ = some ρ := rfl
@[simp] theorem e_kCons (k : D → DEnv → Option DEnv) (l : List D → DEnv → Option DEnv) (ds : List D) : kCons k l (d :: ds) ρ = (k d ρ).bind fun ρ1 => l ds ρ1 := rfl
@[simp] theorem e_kTup (l : List D → DEnv → Option DEnv) (ds : List D) : kTup' i l (.tup ds) ρ = if ds.length = i then l ds ρ else none := rfl
@[simp] theorem e_loop (k : D → DEnv → Option DEnv) (s : MS) (t : MA) : mLoop k s t ρ = (t ρ).bind fun ds ρ1 => mFor k s ds ρ1 := rfl
@[simp] theorem e_run (N fx : Nat) (s : MS) (ds : List D) : runF N fx s ds = fin fx (s (ds.map some ++ List.replicate (N - ds.length) none)) := rfl
@[simp] theorem e_fin1 (fx : Nat) : fin fx (.ok .nx ρ) = .ok .non (ρ.take fx) := rfl
@[simp] theorem e_fin2 (fx : Nat) : fin fx (.ok (.rt d) ρ) = .ok d (ρ.take fx) := rfl
@[simp] theorem e_mtL (f : List D → List D → Option (D × List D)) (t : MA) : mMtL i f t ρ = match own ρ i with
  | some (.lst _) => (t ρ).bind fun es ρ1 => (match own ρ1 i with
    | some (.lst ds) => (match f ds es with | some (z, ds') => .ok z (ρ1.set i (some (.lst ds'))) | none => .no)
    | _ => .no)
  | _ => .no := rfl
@[simp] theorem e_yes : mYes ρ = .ok true ρ := rfl
@[simp] theorem e_one (f : D → Option D) : one f [d] = f d := rfl
@[simp] theorem e_two (f : D → D → Option D) (e : D) : two f [d, e] = f d e := rfl
end
@[simp] theorem d_sub (i j : Int) : subD (.int i) (.int j) = some (.int (i - j)) := rfl
@[simp] theorem d_add (i j : Int) : addD (.int i) (.int j) = some (.int (i + j)) := rfl
@[simp] theorem d_addS (x y : Str) : addD (.str x) (.str y) = if x.length + y.length ≤ 16777216 then some (.str (x ++ y)) else none := rfl
@[simp] theorem d_addL (x y : List D) : addD (.lst x) (.lst y) = if x.length + y.length ≤ 16777216 then some (.lst (x ++ y)) else none := rfl
@[simp] theorem d_addT (x y : List D) : addD (.tup x) (.tup y) = if x.length + y.length ≤ 16777216 then some (.tup (x ++ y)) else none := rfl
@[simp] theorem d_mul (i j : Int) : mulD (.int i) (.int j) = if mulOk i j = true then some (.int (i * j)) else none := rfl
@[simp] theorem d_mod (i j : Int) : modD (.int i) (.int j) = if 0 < j then some (.int (i % j)) else none := rfl
@[simp] theorem d_fdiv (i j : Int) : fdivD (.int i) (.int j) = if 0 < j ∧ j < 10 ^ 30 then some (.int (i / j)) else none := rfl
@[simp] theorem d_pow (i j : Int) : powD (.int i) (.int j) = if 0 ≤ j ∧ j ≤ 1000 ∧ i.natAbs < 2 ^ 64 then some (.int (i ^ j.toNat)) else none := rfl
@[simp] theorem d_lt (i j : Int) : ltD (.int i) (.int j) = some (.bl (decide (i < j))) := rfl
@[simp] theorem d_le (i j : Int) : leD (.int i) (.int j) = some (.bl (decide (i ≤ j))) := rfl
@[simp] theorem d_gt (i j : Int) : gtD (.int i) (.int j) = some (.bl (decide (j < i))) := rfl
@[simp] theorem d_ge (i j : Int) : geD (.int i) (.int j) = some (.bl (decide (j ≤ i))) := rfl
@[simp] theorem d_eqI (i j : Int) : eqD (.int i) (.int j) = some (.bl (decide (i = j))) := by
  have h : eqOk (.int i) (.int j) = true := by simp [eqOk, D.py, D.toPy, PyData.depth]
  have e : eqB (.int i) (.int j) = some (eqv (.int i) (.int j)) := by
    show (if eqOk (.int i) (.int j) = true then some (eqv (.int i) (.int j)) else none) = _
    rw [if_pos h]
  unfold eqD
  rw [e]
  unfold eqv
  rw [D.toPy, D.toPy, PyData.eqv]
  by_cases q : i = j
  · subst q; simp
  · simp [q]
/-! ### what a result comes to -/
def Sat {α : Type} (r : R α) (Q : α → DEnv → Prop) : Prop := ∃ a ρ, r = .ok a ρ ∧ Q a ρ
theorem sat_of {α : Type} {r : R α} {a : α} {ρ : DEnv} {Q : α → DEnv → Prop} (e : r = .ok a ρ) (h : Q a ρ) : Sat r Q := ⟨a, ρ, e, h⟩
theorem Sat.bind {α β : Type} {r : R α} {f : α → DEnv → R β} {Q : β → DEnv → Prop} (h : Sat r fun a ρ => Sat (f a ρ) Q) : Sat (r.bind f) Q := by
  obtain ⟨a, ρ, rfl, h⟩ := h; exact h
theorem Sat.mono {α : Type} {r : R α} {Q Q' : α → DEnv → Prop} (h : Sat r Q) (k : ∀ a ρ, Q a ρ → Q' a ρ) : Sat r Q' := by
  obtain ⟨a, ρ, rfl, h⟩ := h; exact ⟨a, ρ, rfl, k a ρ h⟩
theorem sat_seq {m n : MS} {ρ : DEnv} {Q : Fl → DEnv → Prop} (h : Sat (m ρ) fun f ρ1 => f = .nx ∧ Sat (n ρ1) Q) : Sat (mSeq m n ρ) Q := by
  obtain ⟨a, ρ1, e, rfl, h⟩ := h
  rw [e_seq, e]; exact h
theorem sat_set {i : Nat} {m : ME} {ρ : DEnv} {Q : Fl → DEnv → Prop} (h : Sat (m ρ) fun d ρ1 => Q .nx (ρ1.set i (some d))) : Sat (mSet i m ρ) Q := by
  obtain ⟨a, ρ1, e, h⟩ := h
  rw [e_set, e]; exact ⟨_, _, rfl, h⟩
theorem sat_drop {m : ME} {ρ : DEnv} {Q : Fl → DEnv → Prop} (h : Sat (m ρ) fun _ ρ1 => Q .nx ρ1) : Sat (mDrop m ρ) Q := by
  obtain ⟨a, ρ1, e, h⟩ := h
  rw [e_drop, e]; exact ⟨_, _, rfl, h⟩
theorem sat_ifS {c : MT} {m n : MS} {ρ : DEnv} {Q : Fl → DEnv → Prop} (h : Sat (c ρ) fun k ρ1 => if k = true then Sat (m ρ1) Q else Sat (n ρ1) Q) : Sat (mIfS c m n ρ) Q := by
  obtain ⟨a, ρ1, e, h⟩ := h
  rw [e_ifS, e]
  cases a with
  | true => exact h
  | false => exact h
theorem sat_ret {m : ME} {ρ : DEnv} {Q : Fl → DEnv → Prop} (h : Sat (m ρ) fun d ρ1 => Q (.rt d) ρ1) : Sat (mRet m ρ) Q := by
  obtain ⟨a, ρ1, e, h⟩ := h
  rw [e_ret, e]; exact ⟨_, _, rfl, h⟩
/-- a loop by what holds at each turn -/
theorem sat_for {k : D → DEnv → Option DEnv} {body : MS} {I : Nat → DEnv → Prop} {Q : Fl → DEnv → Prop} (ds : List D)
    (step : ∀ i d ρ, ds[i]? = some d → I i ρ → ∃ ρ1, k d ρ = some ρ1 ∧ Sat (body ρ1) fun f ρ2 => (f = .nx ∧ I (i + 1) ρ2) ∨ (∃ z, f = .rt z ∧ Q (.rt z) ρ2)) (ρ : DEnv) (h0 : I 0 ρ) (fin : ∀ ρ, I ds.length ρ → Q .nx ρ) : Sat (mFor k body ds ρ) Q := by
  have go : ∀ (l : List D) (j : Nat) (ρ : DEnv), ds.drop j = l → j + l.length = ds.length → I j ρ → Sat (mFor k body l ρ) Q := by
    intro l
    induction l with
    | nil =>
      intro j ρ hd hl hi
      have e : j = ds.length := by simpa using hl
      subst e; exact ⟨_, _, rfl, fin _ hi⟩
    | cons d l ih =>
      intro j ρ hd hl hi
      have ed : ds[j]? = some d := by
        have : (ds.drop j)[0]? = some d := by rw [hd]; rfl
        simpa using this
      obtain ⟨ρ1, e1, f, ρ2, e2, h⟩ := step j d ρ ed hi
      unfold mFor
      rw [e1]
      dsimp only
      rw [e2]
      rcases h with ⟨rfl, h⟩ | ⟨z, rfl, h⟩
      · exact ih (j + 1) ρ2 (by rw [← List.drop_drop, hd]; rfl) (by rw [List.length_cons] at hl; omega) h
      · exact ⟨_, _, rfl, h⟩
  exact go ds 0 ρ rfl (by simp) h0
/-- a comprehension that leaves the frame as it is -/
theorem mLc_gen {ma : MA} {k : D → DEnv → Option DEnv} {test : MT} {elt : ME} {vs : List Nat} {ρ : DEnv} {ds : List D} (p : D → Bool) (f : D → D) (hma : ma ρ = .ok ds ρ) (hlen : ds.length ≤ 16777216)
    (hstep : ∀ d ∈ ds, ∃ ρ1, k d (wipeD ρ vs) = some ρ1 ∧ wipeD ρ1 vs = wipeD ρ vs ∧ test ρ1 = .ok (p d) ρ1 ∧ (p d = true → elt ρ1 = .ok (f d) ρ1)) (hfill : fillD ρ vs (wipeD ρ vs) = ρ) :
    mLc ma k test elt vs ρ = .ok (.lst ((ds.filter p).map f)) ρ := by
  have go : ∀ (l : List D) (acc : List D) (ρ0 : DEnv), (∀ d ∈ l, d ∈ ds) → acc.length + l.length ≤ 16777216 → wipeD ρ0 vs = wipeD ρ vs → ∃ ρ', mLcGo k test elt vs l acc ρ0 = .ok (acc ++ (l.filter p).map f) ρ' ∧ wipeD ρ' vs = wipeD ρ vs := by
    intro l
    induction l with
    | nil => intro acc ρ0 _ _ h; exact ⟨ρ0, by simp [mLcGo], h⟩
    | cons d l ih =>
      intro acc ρ0 hm hl h
      obtain ⟨ρ1, e1, e2, e3, e4⟩ := hstep d (hm d List.mem_cons_self)
      rw [List.length_cons] at hl
      unfold mLcGo
      rw [h, e1]
      dsimp only
      rw [e3, R.bindN_ok]
      cases hp : p d with
      | false =>
        rw [if_neg Bool.false_ne_true]
        obtain ⟨ρ', e5, e6⟩ := ih acc ρ1 (fun x m => hm x (List.mem_cons_of_mem _ m)) (by omega) e2
        refine ⟨ρ', ?_, e6⟩
        rw [e5, List.filter_cons_of_neg (by rw [hp]; exact Bool.false_ne_true)]
      | true =>
        rw [if_pos rfl, e4 hp, R.bindN_ok, if_pos (by omega)]
        obtain ⟨ρ', e5, e6⟩ := ih (acc ++ [f d]) ρ1 (fun x m => hm x (List.mem_cons_of_mem _ m)) (by rw [List.length_append, List.length_singleton]; omega) e2
        refine ⟨ρ', ?_, e6⟩
        rw [e5, List.filter_cons_of_pos hp, List.map_cons, List.append_assoc]
        rfl
  obtain ⟨ρ', e1, e2⟩ := go ds [] ρ (fun _ m => m) (by simpa using hlen) rfl
  unfold mLc
  rw [hma, R.bind_ok, e1, R.bind_ok, e2, hfill]
  rfl
/-- .. of one name, without an if -/
theorem mLc_one {ma : MA} {elt : ME} {i : Nat} {ρ : DEnv} {ds : List D} (f : D → D) (hma : ma ρ = .ok ds ρ) (hlen : ds.length ≤ 16777216) (hi : i < ρ.length)
    (helt : ∀ d ∈ ds, elt (ρ.set i (some d)) = .ok (f d) (ρ.set i (some d))) : mLc ma (kName i) mYes elt [i] ρ = .ok (.lst (ds.map f)) ρ := by
  have hs : ∀ d, (ρ.set i none).set i (some d) = ρ.set i (some d) := fun d => List.set_set ..
  have := mLc_gen (k := kName i) (test := mYes) (elt := elt) (vs := [i]) (fun _ => true) f hma hlen (fun d m => ⟨ρ.set i (some d), by show some ((ρ.set i none).set i (some d)) = _; rw [hs], by show (ρ.set i (some d)).set i none = ρ.set i none; exact List.set_set .., rfl, fun _ => helt d m⟩) (by
    show (ρ.set i none).set i ((ρ[i]?).bind id) = ρ
    rw [List.set_set]
    apply List.ext_getElem?
    intro j
    by_cases e : i = j
    · subst e
      rw [List.getElem?_set_self hi, List.getElem?_eq_getElem hi]
      cases ρ[i] <;> rfl
    · rw [List.getElem?_set_ne e])
  rw [this]
  congr 3
  exact List.filter_eq_self.mpr fun _ _ => rfl
end VL
/-! V17: xs[::1], xs[::-1] of a list; enumerate of a tuple; count; a raise that is not reached. -/
namespace VL
open PySem PySem.Spec L2

/-! ### steps -/
theorem pick_fwd (items : Array Value) : slicePick items none none (some 1) = items := by
  have e : sliceBounds none none (some 1) items.size = sliceBounds none none none items.size := by simp [sliceBounds]
  have h := slicePick_all items
  unfold slicePick at h ⊢
  rw [e]; exact h
abbrev rStep (K : PySem.W.Frag) : R2 := fun x y H Q => ∃ a xs i, x = .ref a ∧ y = .int i ∧ SqL K H a xs ∧ ((i = 1 ∧ ∀ p, H p = none → Q (.ref p) (upd H p (.lst xs))) ∨ (i = -1 ∧ ∀ p, H p = none → Q (.ref p) (upd H p (.lst xs.reverse))))
section
variable {X : Cx} {a c : Expr} {ta tc : TE} {pos p2 : Pos}
theorem pe_step (ha : PE X a ta) (hc : PE X c tc) : PE X (.Subscript a (.Slice none none (some c) p2) pos) (tOp (rStep X.K) ta tc) := by
  refine ⟨fun pins s σ H Q I h => PyProof.Rows.Subscript_ (thn (ha.run pins s σ H _ I h) fun v s1 ⟨x, H1, I1, r1, q1⟩ => ?_)⟩
  refine wpAny_Slice ?_
  rw [evalPart_none]
  refine wpAny_pure (wpAny_pure ?_)
  rw [evalPart_some]
  refine thn (hc.run pins s1 σ H1 _ I1 q1) fun u s2 ⟨y, H2, I2, r2, q2⟩ => ?_
  obtain ⟨l, xs, i, rfl, rfl, hs, q2⟩ := q2
  cases r1
  obtain ⟨t, rfl⟩ := r2
  have I3 : Inv X pins σ H2 { s2 with heap := s2.heap.push { cls := .type "slice", data := .fields #[.none, .none, .int i t] } } := I2.kept (t' := s2.toks) fun b ob q => Heap.get?_push_of_some _ q
  obtain ⟨its, r, ht, hz⟩ := I3.list hs
  have hlen := r.length
  have lay : ∀ (ys : List V) (us : List Value), Vals ys us → ys.length ≤ sizeLine → (∀ p, H2 p = none → Q (.ref p) (upd H2 p (.lst ys))) →
      EP X pins σ Q (.ref (s2.heap.push { cls := .type "slice", data := .fields #[.none, .none, .int i t] }).objs.size) { s2 with heap := (s2.heap.push { cls := .type "slice", data := .fields #[.none, .none, .int i t] }).push { cls := .type "list", data := .seq us.toArray } } := fun ys us rv hl q =>
    ⟨.ref _, _, I3.laid (t' := s2.toks) (o := .lst ys) (fun b ob q => Heap.get?_push_of_some _ q) (Nat.le_refl _) ⟨hl, us, 0, rv, Heap.get?_push_size _ rfl⟩, rfl, q _ (I3.hok.fresh (Nat.le_refl _))⟩
  have go : ∀ (us : Array Value) (i0 : Int), i = i0 → i0 ≠ 0 → slicePick its.toArray none none (some i0) = us → EP X pins σ Q (.ref (s2.heap.push { cls := .type "slice", data := .fields #[.none, .none, .int i t] }).objs.size) { s2 with heap := (s2.heap.push { cls := .type "slice", data := .fields #[.none, .none, .int i t] }).push { cls := .type "list", data := .seq us } } →
      wpAny (model X.prog X.w) X.A (PyProof.Rows.subscriptTail a (.Slice none none (some c) p2) (.ref l) (.ref s2.heap.objs.size)) (EP X pins σ Q) X.xe { s2 with heap := s2.heap.push { cls := .type "slice", data := .fields #[.none, .none, .int i t] } } := fun us i0 e n0 ep hq => by
    subst e
    refine PyProof.Rows.tail_any (ops := [.ref l, .ref s2.heap.objs.size]) ht.isList.typeIs PySem.F.slot_list_getitem.lookup ?_ (by with_unfolding_all rfl)
    refine wpAny_getItem_list_slice (st := some i) ht.isList (Heap.IsSliceOf.new ..) .none .none (.int i t) (fun z => n0 (Option.some.inj z)) ?_ (by rw [List.size_toArray, ← hlen]; exact hz)
    rw [ep]
    exact hq
  rcases q2 with ⟨rfl, q⟩ | ⟨rfl, q⟩
  · exact go _ 1 rfl (by decide) (pick_fwd _) (lay xs its r hz q)
  · exact go _ (-1) rfl (by decide) (PySem.W.krv_pick _) (lay xs.reverse its.reverse r.reverse (by rw [List.length_reverse]; exact hz) q)
end
def stepD : D → D → Option D
  | .lst ds, .int i => if i = 1 then some (.lst ds) else if i = -1 then some (.lst ds.reverse) else none
  | _, _ => none
theorem s_step {K : PySem.W.Frag} : Op2 K (.lst .leaf) (rStep K) stepD := by
  intro F H x y d e z Q sm h k q ok
  unfold stepD at q
  split at q
  · rename_i ds i
    obtain ⟨p, vs, rfl, e2, r⟩ := h.lstE sm
    have ei := k.intE
    subst ei
    split at q
    · rename_i e1
      cases q
      exact ⟨p, vs, i, rfl, rfl, .inl (.inl e2), .inl ⟨e1, fun l n => ok.newL sm r n⟩⟩
    · split at q
      · rename_i e1
        cases q
        exact ⟨p, vs, i, rfl, rfl, .inl (.inl e2), .inr ⟨e1, fun l n => ok.newL sm r.reverse n⟩⟩
      · cases q
  · cases q
theorem ev_step {X : Cx} {ks : List Sh} {W : WX} {a c : Expr} {ta tc : TE} {mo mp : MO} {pos p2 : Pos} (K : PySem.W.Frag) (hK : X.K = K) (ha : EO X ks W a ta mo) (hc : EO X ks W c tc mp) :
    EV X ks W (.Subscript a (.Slice none none (some c) p2) pos) (.lst .leaf) (tOp (rStep K) ta tc) (mOp2 stepD mo mp) := by
  subst hK
  exact ⟨pe_step ha.pe hc.pe, snd_op2 (b := bd X ks W) s_step ha.sd hc.sd⟩

/-! ### a raise that is not reached -/
/-! ### count -/
section
variable {X : Cx}
end
end VL
/-! V18: enumerate of a tuple, of a list that stands; count of a list. -/
namespace VL
open PySem PySem.Spec L2
open AutoSeq1 (wpAny_loadPart')

section
variable {prog : Program} {w : World} {A : Around} {E : Value → Shared → Prop} {s : Shared}
end
/-! ### count of a list -/
end VL
/-! V19: a dict of dicts, owned. -/
namespace VL
open PySem PySem.Spec L2

section
variable {K : PySem.W.Frag} {F H : Hp} {s : Sh}
theorem ORs.append : ∀ {vs ws : List V} {ds es : List D} {f g : List Addr}, ORs K F H s vs ds f → ORs K F H s ws es g → ORs K F H s (vs ++ ws) (ds ++ es) (f ++ g)
  | _, _, _, _, _, _, .nil, r => r
  | _, _, _, _, _, _, .cons (f := f0) o t, r => by
    rw [List.append_assoc]
    exact .cons o (ORs.append t r)
theorem ORs.split : ∀ {vs : List V} {ds : List D} {fp : List Addr} {j : Nat} {d : D}, ORs K F H s vs ds fp → ds[j]? = some d →
    ∃ v f g, vs[j]? = some v ∧ OR K F H s v d f ∧ fp.Perm (f ++ g) ∧ ∀ H' d' f', (∀ a ∈ g, H' a = H a) → OR K F H' s v d' f' → ∃ fp', ORs K F H' s vs (ds.set j d') fp' ∧ fp'.Perm (f' ++ g)
  | _, _, _, _, _, .nil, e => by simp at e
  | _, _, _, 0, _, .cons (v := v) (f := f0) (g := g0) o t, e => by
    simp at e
    subst e
    exact ⟨v, f0, g0, rfl, o, .rfl, fun H' d' f' h o' => ⟨f' ++ g0, .cons o' (t.frame (fun _ _ x => x) fun a m => ⟨(t.own a m).1, h a m⟩), .rfl⟩⟩
  | _, _, _, j + 1, _, .cons (f := f0) o t, e => by
    obtain ⟨v, f, g, h1, h2, h3, h4⟩ := ORs.split (j := j) t (by simpa using e)
    refine ⟨v, f, f0 ++ g, by simpa using h1, h2, ?_, fun H' d' f' h o' => ?_⟩
    · refine (List.Perm.append_left f0 h3).trans ?_
      rw [← List.append_assoc, ← List.append_assoc]
      exact List.Perm.append_right g List.perm_append_comm
    · obtain ⟨fp', q1, q2⟩ := h4 H' d' f' (fun a m => h a (List.mem_append_right _ m)) o'
      refine ⟨f0 ++ fp', .cons (o.frame (fun _ _ x => x) fun a m => ⟨(o.own a m).1, h a (List.mem_append_left _ m)⟩) q1, ?_⟩
      refine (List.Perm.append_left f0 q2).trans ?_
      rw [← List.append_assoc, ← List.append_assoc]
      exact List.Perm.append_right g List.perm_append_comm
end
section
variable {K : PySem.W.Frag} {ks : List Sh} {F H : Hp} {ρ : DEnv} {σ : St} {fp : List Addr}
abbrev dd : Sh := .dic (.dic .leaf)
end
end VL
/-! V20: statements and tests over an owned dict of dicts. -/
namespace VL
open PySem PySem.Spec L2

section
variable {X : Cx} {ks : List Sh} {W : WX} {rsh : Sh} {fx : Nat} {a c value : Expr} {i j : Nat} {x y : Str} {p p1 p2 pos pos1 pos2 pos3 : Pos} {ta tc tv : TE} {ma mc mv : ME}
end
end VL
namespace VL
open PySem PySem.Spec L2
end VL
/-! V21: is, is not over truths. -/
namespace VL
open PySem PySem.Spec L2
def isBD : D → D → Option D
  | .bl a, .bl b => some (.bl (decide (a = b)))
  | _, _ => none
def notBD : D → D → Option D
  | .bl a, .bl b => some (.bl (!decide (a = b)))
  | _, _ => none
section
variable {K : PySem.W.Frag}
end
@[simp] theorem d_isB (a b : Bool) : isBD (.bl a) (.bl b) = some (.bl (decide (a = b))) := rfl
@[simp] theorem d_notB (a b : Bool) : notBD (.bl a) (.bl b) = some (.bl (!decide (a = b))) := rfl
end VL
/-! V22: dict of a list of pairs. -/
namespace VL
open PySem PySem.Spec L2
section
variable {K : PySem.W.Frag}
end
section
variable {X : Cx} (K : PySem.W.Frag) (hK : X.K = K)
include hK
end
end VL
/-! V23: reversed of a list or a tuple. -/
namespace VL
open PySem PySem.Spec L2
def asRev : D → DEnv → R (List D)
  | .tup ds, ρ => .ok ds.reverse ρ
  | .lst ds, ρ => .ok ds.reverse ρ
  | _, _ => .no
def mRev (m : ME) : MA := fun ρ => (m ρ).bind asRev
section
variable {ρ : DEnv} {m : ME}
@[simp] theorem e_rev : mRev m ρ = (m ρ).bind asRev := rfl
@[simp] theorem e_asRevT (ds : List D) : asRev (.tup ds) ρ = .ok ds.reverse ρ := rfl
@[simp] theorem e_asRevL (ds : List D) : asRev (.lst ds) ρ = .ok ds.reverse ρ := rfl
end
end VL
/-! V24: dicts walked, items, sum of values, get, index, keys of tuples. -/
namespace VL
open PySem PySem.Spec L2

/-! ### walks over a dict that stands -/
def asKy : D → DEnv → R (List D)
  | .dK ds, ρ => if ds.all (fun kv => ascK kv.1) = true then .ok (ds.map fun kv => keyD kv.1) ρ else .no
  | .dT ds, ρ => if ds.all (fun kv => kv.1.all ascK) = true then .ok (ds.map fun kv => .key kv.1) ρ else .no
  | _, _ => .no
def mKs (m : ME) : MA := fun ρ => (m ρ).bind asKy
section
variable {X : Cx} {ks : List Sh} {W : WX} {tg e : Expr} {te : TE} {me : ME} {apos cpos : Pos}
end

/-! ### items -/
def asIt : D → DEnv → R (List D)
  | .dK ds, ρ => if ds.all (fun kv => ascK kv.1) = true then .ok (ds.map fun kv => .tup [keyD kv.1, kv.2]) ρ else .no
  | _, _ => .no
def mIts (m : ME) : MA := fun ρ => (m ρ).bind asIt
section
variable {X : Cx} {ks : List Sh} {W : WX} {tg e : Expr} {te : TE} {me : ME} {apos cpos tpos : Pos} {elts : List Expr} {kk : Nat}
end
end VL
/-! V25: sum(d.values()), d.get(k, x), index, keys made. -/
namespace VL
open PySem PySem.Spec L2

/-! ### sum(o.values()) -/
/-! ### o.get(k, x) -/
def D.isDc : D → Bool
  | .dK _ => true
  | .dT _ => true
  | _ => false
def getD3 (d k x : D) : Option D := match d with
  | .dK kvs => (keyK k).bind fun q => some ((look kvs q).getD x)
  | .dT kvs => (keyT k).bind fun q => some ((look kvs q).getD x)
  | _ => none
def mGet (mo : MO) (mk mx : ME) : ME := fun ρ => (mo ρ).bind fun o ρ1 => if (o.get ρ1).any D.isDc = true then (mk ρ1).bind fun k ρ2 => (mx ρ2).bind fun x ρ3 => R.of ((o.get ρ3).bind fun d => getD3 d k x) ρ3 else .no
end VL
/-! V26: index; keys (tuples that dicts take), a display of one pair with such a key. -/
namespace VL
open PySem PySem.Spec L2

/-! ### index -/
section
variable {X : Cx} {ks : List Sh} {W : WX} {o e : Expr} {to te : TE} {m mx : ME} {mo : MO} {apos cpos : Pos}
end

/-! ### keys made -/
def mKey (a : MA) : ME := fun ρ => (a ρ).bind fun ds ρ1 => if ds.length ≤ 16777216 then R.of ((keyTs ds).bind fun k => some (.key k)) ρ1 else .no
section
variable {X : Cx} {ks : List Sh} {W : WX} {es : List Expr} {pos : Pos}
/-! ### {key: v} -/
end
end VL
/-! V27: a list unpacked. -/
namespace VL
open PySem PySem.Spec L2
def kLst' (k : Nat) (n : List D → DEnv → Option DEnv) : D → DEnv → Option DEnv
  | .lst ds, ρ => if ds.length = k then n ds ρ else none
  | _, _ => none
section
variable {ρ : DEnv} {i : Nat}
@[simp] theorem e_kLst (l : List D → DEnv → Option DEnv) (ds : List D) : kLst' i l (.lst ds) ρ = if ds.length = i then l ds ρ else none := rfl
@[simp] theorem e_Ks (m : ME) : mKs m ρ = (m ρ).bind asKy := rfl
@[simp] theorem e_Its (m : ME) : mIts m ρ = (m ρ).bind asIt := rfl
@[simp] theorem e_key (t : MA) : mKey t ρ = (t ρ).bind fun ds ρ1 => if ds.length ≤ 16777216 then R.of ((keyTs ds).bind fun k => some (.key k)) ρ1 else .no := rfl
@[simp] theorem e_get (mo : MO) (mk mx : ME) : mGet mo mk mx ρ = (mo ρ).bind fun o ρ1 => if (o.get ρ1).any D.isDc = true then (mk ρ1).bind fun k ρ2 => (mx ρ2).bind fun x ρ3 => R.of ((o.get ρ3).bind fun d => getD3 d k x) ρ3 else .no := rfl
end
end VL
/-! V28: count of whole numbers in a list. -/
namespace VL
open PySem PySem.Spec L2
end VL
/-! V29: list(range(a, b)). -/
namespace VL
open PySem PySem.Spec L2
def mLR2 (ma mc : ME) : ME := fun ρ => (ma ρ).bind fun d ρ1 => match d with
  | .int i => (mc ρ1).bind fun e ρ2 => (match e with
    | .int j => if -1000000 ≤ i ∧ i ≤ 1000000 ∧ -1000000 ≤ j ∧ j ≤ 1000000 then .ok (.lst (rangeD i (j - i).toNat)) ρ2 else .no
    | _ => .no)
  | _ => .no
def mLR1 (ma : ME) : ME := fun ρ => (ma ρ).bind fun d ρ1 => match d with
  | .int i => if -1000000 ≤ i ∧ i ≤ 1000000 then .ok (.lst (rangeD 0 i.toNat)) ρ1 else .no
  | _ => .no
@[simp] theorem e_LR2 {ma mc : ME} {ρ : DEnv} : mLR2 ma mc ρ = (ma ρ).bind fun d ρ1 => match d with
  | .int i => (mc ρ1).bind fun e ρ2 => (match e with
    | .int j => if -1000000 ≤ i ∧ i ≤ 1000000 ∧ -1000000 ≤ j ∧ j ≤ 1000000 then .ok (.lst (rangeD i (j - i).toNat)) ρ2 else .no
    | _ => .no)
  | _ => .no := rfl
@[simp] theorem e_LR1 {ma : ME} {ρ : DEnv} : mLR1 ma ρ = (ma ρ).bind fun d ρ1 => match d with
  | .int i => if -1000000 ≤ i ∧ i ≤ 1000000 then .ok (.lst (rangeD 0 i.toNat)) ρ1 else .no
  | _ => .no := rfl
end VL
/-! V30: texts less than texts. -/
namespace VL
open PySem PySem.Spec L2
def ltSD : D → D → Option D
  | .str x, .str y => some (.bl (decide (x.cps.toList < y.cps.toList)))
  | _, _ => none
@[simp] theorem d_ltS (x y : Str) : ltSD (.str x) (.str y) = some (.bl (decide (x.cps.toList < y.cps.toList))) := rfl
end VL
/-! V31: walks over a list or a tuple; told texts in a list of told texts. -/
namespace VL
open PySem PySem.Spec L2
def mSqs (m : ME) : MA := fun ρ => match m ρ with
  | .ok (.lst _) _ => mLs m ρ
  | _ => mTs m ρ
@[simp] theorem e_SqL {m : ME} {ρ ρ' : DEnv} {ds : List D} (h : m ρ = .ok (.lst ds) ρ') : mSqs m ρ = .ok ds ρ' := by
  unfold mSqs
  rw [h]
  show mLs m ρ = _
  unfold mLs
  rw [h]; rfl
@[simp] theorem e_SqT {m : ME} {ρ ρ' : DEnv} {ds : List D} (h : m ρ = .ok (.tup ds) ρ') : mSqs m ρ = .ok ds ρ' := by
  unfold mSqs
  rw [h]
  show mTs m ρ = _
  unfold mTs
  rw [h]; rfl
end VL
/-! V32: the least of a tuple of whole numbers. -/
namespace VL
open PySem PySem.Spec L2 PyProof.Rows
section
variable {prog : Program} {w : World} {A : Around} {E : Value → Shared → Prop} {s : Shared} {l : Addr} {its : List Value} {ns : List Int} {Q : Value → Shared → Prop}
end
end VL
/-! V33: the begin of a def that calls itself. -/
namespace VL
open PySem PySem.Spec L2
end VL
/-! V34: the sum of a tuple of whole numbers. -/
namespace VL
open PySem PySem.Spec L2 PyProof.Rows
end VL
/-! V35: a slot's shape changes for the rest of a block (what it held is forgotten). -/
namespace VL
open PySem PySem.Spec L2
section
variable {X : Cx} {ks : List Sh} {W : WX} {rsh : Sh} {fx : Nat} {sts : List Stmt} {t : TS} {m : MS}
end
end VL
/-! V36: refusals: __init__ of own exception classes, raise, try .. except .. as e, isinstance(e, ..), e.field. -/
namespace VL
open PySem PySem.Spec L2

/-! ### B.__init__(self, ..), B an own class whose __init__ is ValueError's -/
theorem pe_cinit {X : Cx} {x : Str} {B : Addr} {mc : Value} {e : Expr} {es : List Expr} {ta : TA} {p1 p2 pos : Pos} {pl : Sem Bool} (hg : Gl X x) (gB : X.mg x = some (.ref B)) (rd : ClX.CRead X.K B mc)
    (vV : PySem.W.findCls X.K (.ref B) mc "__init__" = some (.val (.builtin "ValueError.__init__"))) (ha : PA X (e :: es) ta) (hdb : (x == ("__debug__" : Str)) = false := by decide)
    (hc : eval (.Call (.Attribute (.Name x p1) "__init__" p2) (e :: es) [] pos) X.env = (do
      let ov ← eval (.Name x p1) X.env
      standAt p2.atName
      let (f, first) ← holding [ov] (getMethod ov "__init__" pl)
      callWith pos f first (backTo pos (starEach (e :: es) X.env)) (backToKw pos (keywordEach [] X.env))) := by rfl)
    (he : starEach (e :: es) X.env = (false, eval e X.env) :: starEach es X.env := by rfl) (hpl : (backTo pos (starEach es X.env)).any (·.1) = false := by rfl) :
    PE X (.Call (.Attribute (.Name x p1) "__init__" p2) (e :: es) [] pos) (tVeI X.K ta) := by
  refine ⟨fun pins s σ H Q I h => ?_⟩
  refine PySem.W.methodCall_KW (ld_glob I hg gB ?_ hdb) hc
  refine PySem.W.method_cls I.kIn rd.ga (PySem.W.cls_value I.kIn rd.rd vV (by decide +kernel) ?_)
  show wpAny _ _ (callWith pos (Value.builtin "ValueError.__init__") [] (backTo pos (starEach (e :: es) X.env)) []) _ _ _
  refine PyProof.Rows.callWith_method1 (thn (ha.run pos pins _ σ H _ (I.tok _) h) fun us s1 ⟨vs, H1, I1, r1, a, C, ws, ev, hl, T, ea, q⟩ => ?_) he hpl
  subst ev
  cases r1 with
  | @cons _ u0 _ ur ra rw' =>
    obtain rfl : u0 = Value.ref a := ra
    have hlen : ur.length ≤ sizeLine := by
      rw [← Paired.length rw', sizeLine_eq]
      omega
    exact oinit_ok T I1 ea hlen fun s' J => ⟨.non, H1, J, rfl, q⟩

/-! ### __init__: its promise -/
def zipr (fs : List Str) (ws : List V) : List (Str × V) := (fs.zip ws).reverse
def spI (K : PySem.W.Frag) (C : Addr) (fs : List Str) : Sp := fun vs H Q _ => ∃ a ws, vs = .ref a :: ws ∧ ws.length = fs.length ∧ H a = some (exo a C none) ∧
  ∀ dx H', H dx = none → dx ≠ a → H' a = some (exo a C (some dx)) → H' dx = some (exd dx (zipr fs ws)) → (∀ b, b ≠ a → b ≠ dx → H' b = H b) → Q .non H'
/-- one field -/
theorem init_end1 {K : PySem.W.Frag} {C : Addr} {f : Str} {vs : List V} {H : Hp} {Q : VK} {E : XK} (T : OexC K C) (no : PySem.W.findIn K (.ref C) f = some none) (h : spI K C [f] vs H Q E) {N : List Str} (hN : N.length = 2) :
    (tSeq (tDrop (tVeI K (tCons (tVar 0) (tCons (tVar 1) tNil)))) (tOst K f (tVar 0) (tVar 1))) { nx := fun _ H' => Q .non H', rt := Q } (L2.start N vs) H := by
  obtain ⟨a, ws, rfl, hl, ea, k⟩ := h
  obtain ⟨y, rfl⟩ : ∃ y, ws = [y] := by
    match ws, hl with
    | [y], _ => exact ⟨y, rfl⟩
  have e : L2.start N [.ref a, y] = [some (.ref a), some y] := by
    unfold L2.start
    rw [hN]; rfl
  rw [e]
  refine ⟨_, rfl, _, rfl, a, C, [y], rfl, by simp, T, ea, ?_⟩
  refine ⟨_, rfl, _, rfl, a, C, rfl, T, no, .inl ⟨ea, fun dx n ne => ?_⟩⟩
  refine k dx _ n ne upd_same ?_ fun b h1 h2 => ?_
  · rw [upd_ne ne, upd_same]; rfl
  · rw [upd_ne h1, upd_ne h2]
/-- two -/
theorem init_end2 {K : PySem.W.Frag} {C : Addr} {f g : Str} {vs : List V} {H : Hp} {Q : VK} {E : XK} (T : OexC K C) (no : PySem.W.findIn K (.ref C) f = some none) (no2 : PySem.W.findIn K (.ref C) g = some none) (h : spI K C [f, g] vs H Q E) {N : List Str} (hN : N.length = 3) :
    (tSeq (tDrop (tVeI K (tCons (tVar 0) (tCons (tVar 1) (tCons (tVar 2) tNil))))) (tSeq (tOst K f (tVar 0) (tVar 1)) (tOst K g (tVar 0) (tVar 2)))) { nx := fun _ H' => Q .non H', rt := Q } (L2.start N vs) H := by
  obtain ⟨a, ws, rfl, hl, ea, k⟩ := h
  obtain ⟨y, z, rfl⟩ : ∃ y z, ws = [y, z] := by
    match ws, hl with
    | [y, z], _ => exact ⟨y, z, rfl⟩
  have e : L2.start N [.ref a, y, z] = [some (.ref a), some y, some z] := by
    unfold L2.start
    rw [hN]; rfl
  rw [e]
  refine ⟨_, rfl, _, rfl, _, rfl, a, C, [y, z], rfl, by simp, T, ea, ?_⟩
  refine ⟨_, rfl, _, rfl, a, C, rfl, T, no, .inl ⟨ea, fun dx n ne => ?_⟩⟩
  refine ⟨_, rfl, _, rfl, a, C, rfl, T, no2, .inr ⟨dx, [(f, y)], upd_same, by rw [upd_ne ne, upd_same], by simp, ?_⟩⟩
  refine k dx _ n ne ?_ upd_same fun b h1 h2 => ?_
  · rw [upd_ne ne.symm, upd_same]
  · rw [upd_ne h2, upd_ne h1, upd_ne h2]

/-! ### raise -/
/-- what is asked of a class that is raised: c its name, fs its fields -/
structure ExK (P : Program) (w : World) (K : PySem.W.Frag) (mg : Str → Option Value) (base : Heap) (c : Str) (fs : List Str) (C : Addr) : Prop where
  gC : mg c = some (.ref C)
  ox : OexC K C
  iC : ∃ fI fd ps, PySem.W.findIn K (.ref C) "__init__" = some (some (.ref fI)) ∧ PySem.W.typeIn K (.ref fI) = some (.type "function") ∧ FnOk P w K mg base CX0 1 fI fd ps (spI K C fs) ∧ Binds K fd ps []
/-- .. that has no fields and no __init__ of its own -/
structure ExN (K : PySem.W.Frag) (mg : Str → Option Value) (c : Str) (C : Addr) : Prop where
  gC : mg c = some (.ref C)
  ex : ∃ B newId initId bmB, ExcBaseFacts B newId initId bmB ∧ PySem.W.excIn K C bmB newId = true
  kC : PySem.W.keepIn K (.ref C) = true
  bC : PySem.W.subIn K (.ref C) (.type "BaseException") = some true
  tC : PySem.W.typeIn K (.ref C) = some (.type "type")
theorem zip_fst {fs : List Str} {ds : List D} (h : ds.length = fs.length) : ((fs.zip ds).reverse).map Prod.fst = fs.reverse := by
  rw [List.map_reverse]
  congr 1
  rw [List.map_fst_zip]
  omega
theorem zip_snd {fs : List Str} {ds : List D} (h : ds.length = fs.length) : ((fs.zip ds).reverse).map Prod.snd = ds.reverse := by
  rw [List.map_reverse]
  congr 1
  rw [List.map_snd_zip]
  omega
section
variable {X : Cx} {ks : List Sh} {W : WX} {rsh : Sh} {fx : Nat} {e : Expr} {es : List Expr} {ta : TA} {ma : MA} {c : Str} {fs : List Str} {C : Addr} {p pos pos' p2 : Pos}
end

/-! ### isinstance(e, C), isinstance(e, (C, ..)), e.f in a suite -/
def IsAns (K : PySem.W.Frag) (H : Hp) (C : Addr) (xs : List V) (a : Addr) (b : Bool) : Prop :=
  (∃ c cv, xs = [.ref a, c] ∧ (∀ u, RelV c u → u = cv) ∧ PySem.W.kitOne K (.ref C) cv = some b) ∨ (∃ tp vs its, xs = [.ref a, .ref tp] ∧ TupF H tp vs ∧ (∀ us, Vals vs us → us = its) ∧ PySem.W.kitAny K (.ref C) its = some b)
theorem excC_cl {K : PySem.W.Frag} {C : Addr} (h : ExcC K C) : (PySem.W.clsIn K C).isSome = true := by
  obtain ⟨cd, hc, _⟩ := PySem.W.any_some h.hd
  rw [hc]; rfl
theorem lookup_mem {α : Type} {c : Str} {b : α} : ∀ {l : List (Str × α)}, l.lookup c = some b → (c, b) ∈ l
  | (x, y) :: l, h => by
    rw [List.lookup_cons] at h
    by_cases e : c = x
    · subst e
      simp at h
      subst h
      exact List.mem_cons_self
    · have : (c == x) = false := by simpa using e
      rw [this] at h
      exact List.mem_cons_of_mem _ (lookup_mem h)
section
variable {X : Cx} {ks : List Sh} {W : WX} {i : Nat} {a : Addr} {cls : Value} {d : Option Addr} {oe : Obj} {pn : List (Addr × Obj)} {x : Str} {p p1 pos : Pos}
end

/-! ### try: .. except B as e: suite -/
section
variable {X : Cx} {ks : List Sh} {W : WX} {rsh : Sh} {fx : Nat} {x n : Str} {c : Value} {i : Nat} {body suite : List Stmt} {b₀ : Stmt} {np pos pos' : Pos} {mb ms : MS}
end

/-! ### a def that may raise, where it is called so that it does not -/
/-- .. called where it does not let anything out of it -/
theorem noEx_ok {α : Type} {r : R α} {a : α} {ρ : DEnv} (h : r.noEx = .ok a ρ) : r = .ok a ρ := by
  cases r with
  | ok b ρ' => exact h
  | ex e ρ' => cases h
  | no => cases h
end VL
/-! V37: defs with a try, defs that raise; facts of classes in tables. -/
namespace VL
open PySem PySem.Spec L2
def clsBody : Stmt → List Stmt
  | .ClassDef _ _ _ b _ _ _ _ _ _ _ => b
  | _ => []
def clsStm (s : Stmt) (i : Nat) : Stmt := (clsBody s).getD i (.Pass ⟨0, 0, 0, 0⟩)
section
variable {P : Program} {w : World} {K : PySem.W.Frag} {mg : Str → Option Value} {base : Heap}
end
theorem rel_ref {C : Addr} : ∀ u, RelV (.ref C) u → u = .ref C := fun _ h => h
theorem rel_ty {n : String} : ∀ u, RelV (.ty n) u → u = .type n := fun _ h => h
/-- the facts of a class with fields, from what the written part says -/
theorem exK_of {P : Program} {w : World} {K : PySem.W.Frag} {mg : Str → Option Value} {base : Heap} {c : Str} {fs : List Str} {C fI : Addr} {fd : FuncData} {ps : List Str} (gC : mg c = some (.ref C)) (ox : OexC K C) (iC : PySem.W.findIn K (.ref C) "__init__" = some (some (.ref fI))) (tI : PySem.W.typeIn K (.ref fI) = some (.type "function"))
    (F : FnOk P w K mg base CX0 1 fI fd ps (spI K C fs)) (b : Binds K fd ps []) : ExK P w K mg base c fs C := ⟨gC, ox, fI, fd, ps, iC, tI, F, b⟩
end VL
/-! V38: sorted lists of pairs of texts. -/
namespace VL
open PySem PySem.Spec L2
abbrev SP := Str × Str
/-! ### the pair a value bears, read off the heap -/
def PrIn (h : Heap) (v : Value) (p : SP) : Prop := ∃ a t u, v = .ref a ∧ PyProof.Rows.IsTup h a #[.str p.1 t, .str p.2 u]
theorem PrIn.keeps {h h' : Heap} {v : Value} {p : SP} (x : PrIn h v p) (k : ∀ b o, h.get? b = some o → o.cls = .type "tuple" → h'.get? b = some o) : PrIn h' v p := by
  obtain ⟨a, t, u, e, o, ho, hc, r⟩ := x
  exact ⟨a, t, u, e, o, k _ _ ho hc, hc, r⟩
section
variable {prog : Program} {w : World} {A : Around} {E : Value → Shared → Prop} {s : Shared}
end

/-! ### the rule -/
/-! ### on data -/
theorem Reps.mem {K : PySem.W.Frag} {F : Hp} : ∀ {vs : List V} {ds : List D}, Reps K F vs ds → ∀ v ∈ vs, ∃ d ∈ ds, Rep K F v d
  | _, _, .nil, v, h => by cases h
  | _, _, .cons r t, v, h => by
    rcases List.mem_cons.mp h with rfl | h
    · exact ⟨_, List.mem_cons_self, r⟩
    · obtain ⟨d, m, q⟩ := Reps.mem t v h
      exact ⟨d, List.mem_cons_of_mem _ m, q⟩
section
variable {X : Cx} (K : PySem.W.Frag) (hK : X.K = K)
include hK
end
end VL
/-! V39: == of dicts, of dicts of dicts (their last values True). -/
namespace VL
open PySem PySem.Spec L2
section
variable {P : Program} {w : World}
end
/-! ### on data -/
end VL
/-! V40: sorted of a list or a tuple of texts. -/
namespace VL
open PySem PySem.Spec L2
section
variable {prog : Program} {w : World} {A : Around} {E : Value → Shared → Prop} {s : Shared}
end
/-! ### the rule -/
section
variable {X : Cx} (K : PySem.W.Frag) (hK : X.K = K)
include hK
end
end VL
/-! V41: t[::-1] of a tuple. -/
namespace VL
open PySem PySem.Spec L2
section
variable {prog : Program} {w : World} {A : Around} {E : Value → Shared → Prop} {s : Shared}
end
section
variable {X : Cx} {a c : Expr} {ta tc : TE} {pos p2 : Pos}
end
end VL
set_option maxHeartbeats 4000000
/-! V42: dict(zip(a, b)), each of a and b a list or a tuple (the flag tells: true a tuple). -/
namespace VL
open PySem PySem.Spec L2
def IsIt : Bool → Heap → Addr → Addr → Nat → Prop
  | true, h, it, l, i => h.IsTupleIter it l i
  | false, h, it, l, i => h.IsListIter it l i
def IsSq : Bool → Heap → Addr → Array Value → Prop
  | true, h, l, xs => h.IsTuple l xs
  | false, h, l, xs => h.IsList l xs
theorem IsIt.up {b : Bool} {h h' : Heap} {it l : Addr} {i : Nat} (x : IsIt b h it l i) (k : ∀ o, h.get? it = some o → h'.get? it = some o) : IsIt b h' it l i := by
  cases b
  · exact Heap.IsListIter.at x k
  · exact Heap.IsTupleIter.at x k
theorem IsSq.up {b : Bool} {h h' : Heap} {l : Addr} {xs : Array Value} (x : IsSq b h l xs) (k : ∀ o, h.get? l = some o → h'.get? l = some o) : IsSq b h' l xs := by
  cases b
  · exact Heap.IsList.at x k
  · exact Heap.IsTuple.at x k
theorem IsIt.ob {b : Bool} {h : Heap} {it l : Addr} {i : Nat} (x : IsIt b h it l i) : ∃ o, h.get? it = some o := by
  cases b
  · obtain ⟨o, e, _⟩ := x; exact ⟨o, e⟩
  · obtain ⟨o, e, _⟩ := x; exact ⟨o, e⟩
theorem IsSq.ob {b : Bool} {h : Heap} {l : Addr} {xs : Array Value} (x : IsSq b h l xs) : ∃ o, h.get? l = some o := by
  cases b
  · obtain ⟨o, e, _⟩ := x; exact ⟨o, e⟩
  · obtain ⟨o, e, _⟩ := x; exact ⟨o, e⟩
section
variable {prog : Program} {w : World} {A : Around} {E : Value → Shared → Prop} {s : Shared}
variable {b1 b2 : Bool} {z TI TO i1 i2 l1 l2 : Addr} {k1 k2 : Nat} {xs ys : Array Value} {x y a b : Value}
variable {T : Addr} {f : Bool} {oT : Obj}
end
end VL
set_option maxHeartbeats 4000000
/-! V43: dict(zip(a, b)), the walk and the rule. -/
namespace VL
open PySem PySem.Spec L2
section
variable {prog : Program} {w : World} {A : Around} {E : Value → Shared → Prop} {s : Shared}
variable {b1 b2 : Bool} {z TI TO i1 i2 l1 l2 : Addr} {k1 k2 : Nat} {xs ys : Array Value} {x y a b : Value}
variable {T : Addr} {f : Bool} {oT : Obj}
end
section
variable {prog : Program} {w : World}
/-! ### zip made -/
end
/-! ### the rule -/
section
variable {X : Cx}
variable {ks0 : List Sh} {W : WX} {e1 e2 : Expr} {t : TA} {p p2 q pos : Pos}
end
end VL
set_option maxHeartbeats 4000000
/-! V44: len(set(x)), x a tuple or a list of ints and texts. -/
namespace VL
open PySem PySem.Spec L2
instance memKD (k : Key) (l : List Key) : Decidable (k ∈ l) := @List.instDecidableMemOfLawfulBEq Key instBEqOfDecidableEq _ k l
section
variable {P : Program} {w : World} {A : Around} {E : Value → Shared → Prop} {s : Shared}
end
end VL
/-! V45: len(set(x)): the rule. -/
namespace VL
open PySem PySem.Spec L2
section
variable {X : Cx}
variable {ks0 : List Sh} {W : WX} {e1 : Expr} {t : TA} {p p2 q pos : Pos}
end
end VL
/-! V46: a call that borrows owned lists: what is told is an atom, the lists stay the caller's own. -/
namespace VL
open PySem PySem.Spec L2
def atomD : D → Bool
  | .non => true | .bl _ => true | .int _ => true | .str _ => true
  | _ => false
def lentO (ρ : DEnv) : Opd → Bool
  | .v _ => true
  | .s i => match ρ[i]? with
    | some (some (.lst _)) => true
    | _ => false
def mCallB (n : Nat) (g : List D → R D) (mo : DEnv → R (List Opd)) : ME := fun ρ => (mo ρ).bind fun os ρ1 => match getAll os ρ1 with
  | some ds => if ds.length = n ∧ os.all (lentO ρ1) = true then (match g ds with
    | .ok d _ => if atomD d = true then .ok d ρ1 else .no
    | _ => .no) else .no
  | none => .no
section
variable {b : Bd} {F H : Hp} {σ : St} {fp : List Addr}
variable {t : TA} {n : Nat} {g : List D → R D} {W : WX} {mo : DEnv → R (List Opd)}
end
section
variable {X : Cx} {CX : CXT} {k n : Nat} {x : Str} {g : List D → R D} {ks : List Sh} {W : WX} {e : Expr} {es : List Expr} {p pos : Pos} {t : TA} {mo : DEnv → R (List Opd)}
end
@[simp] theorem e_callB (n : Nat) (g : List D → R D) (mo : DEnv → R (List Opd)) (ρ : DEnv) : mCallB n g mo ρ = (mo ρ).bind fun os ρ1 => match getAll os ρ1 with
  | some ds => if ds.length = n ∧ os.all (lentO ρ1) = true then (match g ds with
    | .ok d _ => if atomD d = true then .ok d ρ1 else .no
    | _ => .no) else .no
  | none => .no := rfl
end VL
set_option maxHeartbeats 1000000
/-! V47: instances owned by a slot: their fields found, changed, hidden while another part is reckoned. -/
namespace VL
open PySem PySem.Spec L2
section
variable {K : PySem.W.Frag} {F H : Hp}
theorem OF.names : ∀ {sf : List (Str × Sh)} {fv : List (Str × V)} {fd : List (Str × D)} {fp : List Addr}, OF K F H sf fv fd fp → fv.map Prod.fst = fd.map Prod.fst ∧ ∃ r, sf.map Prod.fst = fd.map Prod.fst ++ r
  | sf, _, _, _, .nil => ⟨rfl, sf.map Prod.fst, rfl⟩
  | _, _, _, _, .cons _ t => by
    obtain ⟨h1, r, h2⟩ := OF.names t
    exact ⟨by rw [List.map_cons, List.map_cons, h1], r, by rw [List.map_cons, List.map_cons, h2]; rfl⟩
theorem OF.len {sf : List (Str × Sh)} {fv : List (Str × V)} {fd : List (Str × D)} {fp : List Addr} (h : OF K F H sf fv fd fp) : fv.length = fd.length ∧ fd.length ≤ sf.length := by
  obtain ⟨h1, r, h2⟩ := h.names
  have e1 := congrArg List.length h1
  have e2 := congrArg List.length h2
  simp only [List.length_map, List.length_append] at e1 e2
  omega
/-- the field number j -/
theorem OF.at_ {x : Str} {d : D} : ∀ {sf : List (Str × Sh)} {fv : List (Str × V)} {fd : List (Str × D)} {fp : List Addr} {j : Nat}, OF K F H sf fv fd fp → fd[j]? = some (x, d) →
    ∃ s v f g, sf[j]? = some (x, s) ∧ fv[j]? = some (x, v) ∧ OR K F H s v d f ∧ fp.Perm (f ++ g) ∧
      ∀ {F' H' : Hp} {v' : V} {d' : D} {f' : List Addr}, Same F F' → (∀ a ∈ g, F' a = none ∧ H' a = H a) → OR K F' H' s v' d' f' → ∃ fp', OF K F' H' sf (fv.set j (x, v')) (fd.set j (x, d')) fp' ∧ fp'.Perm (f' ++ g)
  | _, _, _, _, j, .nil, e => by simp at e
  | _, _, _, _, 0, .cons (f := f) (g := g) o t, e => by
    simp at e
    obtain ⟨rfl, rfl⟩ := e
    refine ⟨_, _, f, g, rfl, rfl, o, .rfl, fun s0 hg o' => ⟨_, .cons o' (t.frame s0 hg), .rfl⟩⟩
  | _, _, _, _, j + 1, .cons (f := f0) (g := g0) o t, e => by
    obtain ⟨s, v, f, g, h1, h2, h3, h4, h5⟩ := OF.at_ (j := j) t (by simpa using e)
    refine ⟨s, v, f, f0 ++ g, by simpa using h1, by simpa using h2, h3, ?_, fun {F' H' v' d' f'} s0 hg o' => ?_⟩
    · refine (List.Perm.append_left f0 h4).trans ?_
      rw [← List.append_assoc, ← List.append_assoc]
      exact List.Perm.append_right g List.perm_append_comm
    · obtain ⟨fp', q1, q2⟩ := h5 s0 (fun a m => hg a (List.mem_append_right _ m)) o'
      refine ⟨f0 ++ fp', .cons (o.frame s0 fun a m => hg a (List.mem_append_left _ m)) q1, ?_⟩
      refine (List.Perm.append_left f0 q2).trans ?_
      rw [← List.append_assoc, ← List.append_assoc]
      exact List.Perm.append_right g List.perm_append_comm
end
section
variable {K : PySem.W.Frag} {ks : List Sh} {F H : Hp} {ρ : DEnv} {σ : St} {fp : List Addr} {i : Nat}
theorem Ext.weak {F1 H1 : Hp} {g g1 : List Addr} (x : Ext F H g F1 H1 g1) (s : ∀ a ∈ g, a ∈ fp) : Ext F H fp F1 H1 g1 := ⟨fun a o e n => x.keep a o e fun q => n (s a q), fun a m => (x.fr a m).imp (s a) id⟩
end
end VL
set_option maxHeartbeats 1000000
/-! V48: the fields of an owned instance: read, asked, changed. -/
namespace VL
open PySem PySem.Spec L2
theorem OF.nd {K : PySem.W.Frag} {F H : Hp} {sf : List (Str × Sh)} {fv : List (Str × V)} {fd : List (Str × D)} {fp : List Addr} (h : OF K F H sf fv fd fp) (nd : (sf.map Prod.fst).Nodup) : (fv.map Prod.fst).Nodup := by
  obtain ⟨e1, r, e2⟩ := h.names
  rw [e1]
  rw [e2] at nd
  exact (List.nodup_append.mp nd).1
/-- a thing looked at where it stands, at once -/
def OkL (b : Bd) (F H : Hp) (fp : List Addr) (σ : St) (Q : VK) : R D → Prop
  | .no => False
  | .ok d ρ' => ∀ v F' H' fp', Rel b.K b.ks F' H' ρ' σ fp' → Ext F H fp F' H' fp' → Vw b.K F' H' v d → Q v H'
  | .ex e ρ' => OkX b F H fp σ e ρ'
def SndL (b : Bd) (t : TE) (m : ME) : Prop := ∀ ρ σ F H fp Q, Rel b.K b.ks F H ρ σ fp → OkL b F H fp σ Q (m ρ) → t σ H Q
theorem SndL.go {b : Bd} {t : TE} {P : VK} {ρ : DEnv} {σ : St} {F H : Hp} {fp : List Addr} {m : ME} (h : SndL b t m) (r : Rel b.K b.ks F H ρ σ fp) {α : Type} {f : D → DEnv → R α} {Ok : R α → Prop} (hok : Ok ((m ρ).bind f)) (hn : ¬ Ok .no) (hx : ∀ e ρ1, Ok (.ex e ρ1) → OkX b F H fp σ e ρ1)
    (k : ∀ d ρ1 v F1 H1 fp1, Ok (f d ρ1) → Rel b.K b.ks F1 H1 ρ1 σ fp1 → Ext F H fp F1 H1 fp1 → Vw b.K F1 H1 v d → P v H1) : t σ H P := by
  refine h ρ σ F H fp P r ?_
  cases e : m ρ with
  | no => rw [e] at hok; exact (hn hok).elim
  | ex x ρ1 => rw [e] at hok; exact hx _ _ hok
  | ok d ρ1 =>
    rw [e] at hok
    intro v F1 H1 fp1 r1 x1 o1
    exact k d ρ1 v F1 H1 fp1 hok r1 x1 o1
/-- how an owned thing is viewed -/
theorem OR.vw {K : PySem.W.Frag} {F H : Hp} {s : Sh} {v : V} {d : D} {f : List Addr} (o : OR K F H s v d f) (hs : s = .leaf ∨ s = .lst .leaf ∨ s = .dic .leaf) : Vw K F H v d := by
  rcases hs with rfl | rfl | rfl
  · obtain ⟨r, _⟩ := o.leafE; exact .rep r
  · cases o with
    | lst a c q => obtain ⟨q1, _⟩ := q.leafE; exact .lst c q1
  · cases o with
    | dK a c k q => obtain ⟨q1, _⟩ := q.leafE; exact .dK c k q1
    | dT a c k q => obtain ⟨q1, _⟩ := q.leafE; exact .dT c k q1
section
variable {X : Cx} {ks : List Sh} {W : WX} {y f : Str} {p pos pos' p3 : Pos} {C : Addr} {sf : List (Str × Sh)} {s : Sh}
variable {a c : Expr} {ta tc : TE} {sh : Sh}
/-! ### self.f[k] = v -/
variable {rsh : Sh} {fx : Nat} {value : Expr} {tv : TE}
theorem OkX.wk {b : Bd} {F H : Hp} {g fp : List Addr} {σ : St} {e : Ex} {ρ' : DEnv} (h : OkX b F H fp σ e ρ') (s : ∀ a ∈ g, a ∈ fp) : OkX b F H g σ e ρ' := fun cls dx F' H' fp' r x ex => h cls dx F' H' fp' r (x.weak s) ex
/-! ### self.f = v -/
end
end VL
set_option maxHeartbeats 1000000
/-! V49: methods of an owned instance, instances made. -/
namespace VL
open PySem PySem.Spec L2
/-- a method's promise, by class and name -/
structure Mlp (P : Program) (w : World) (K : PySem.W.Frag) (mg : Str → Option Value) (base : Heap) (CX : CXT) (k : Nat) (C : Addr) (m : Str) (n : Nat) (psh : List Sh) (fx : Nat) (rsh : Sh) (g : List D → R D) : Prop where
  ex : ∃ f fd ps, FnG P w K mg base CX k f fd ps (spV K mg n psh fx rsh g) ∧ Meth K C m f ∧ Binds K fd ps []
structure Ml (X : Cx) (CX : CXT) (k : Nat) (C : Addr) (m : Str) (n : Nat) (psh : List Sh) (fx : Nat) (rsh : Sh) (g : List D → R D) : Prop where
  ex : ∃ f fd ps, FnG X.prog X.w X.K X.mg X.base CX k f fd ps (spV X.K X.mg n psh fx rsh g) ∧ Meth X.K C m f ∧ Binds X.K fd ps []
theorem Mlp.ml {P : Program} {w : World} {K : PySem.W.Frag} {mg : Str → Option Value} {base : Heap} {CX : CXT} {j k : Nat} {C : Addr} {m : Str} {n : Nat} {psh : List Sh} {fx : Nat} {rsh : Sh} {g : List D → R D} (c : Mlp P w K mg base CX j C m n psh fx rsh g) (h : j ≤ k)
    {X : Cx} (h1 : X.prog = P) (h2 : X.w = w) (h3 : X.K = K) (h4 : X.mg = mg) (h5 : X.base = base) : Ml X CX k C m n psh fx rsh g := by
  subst h1 h2 h3 h4 h5
  obtain ⟨f, fd, ps, G, hm, hb⟩ := c.ex
  exact ⟨f, fd, ps, G.mono h, hm, hb⟩
section
variable {X : Cx} {CX : CXT} {k : Nat} {f C : Addr} {fd : FuncData} {ps : List Str} {sp : Sp} {x m : Str} {p pos apos : Pos} {o e : Expr} {es : List Expr} {ta : TE} {t : TA} {E : St → XK}
end
end VL
set_option maxHeartbeats 1000000
/-! V50: methods called, instances made: by data. -/
namespace VL
open PySem PySem.Spec L2
section
variable {X : Cx} {CX : CXT} {k n : Nat} {y m : Str} {g : List D → R D} {ks : List Sh} {W : WX} {e : Expr} {es : List Expr} {p p' pos apos : Pos} {t : TA} {ma : MA} {rsh : Sh} {C : Addr} {sf : List (Str × Sh)}
end
end VL
/-! V51: the rules of instances with the module's part named; a key and a tuple put together. -/
namespace VL
open PySem PySem.Spec L2
section
variable {X : Cx} {CX : CXT} {k n : Nat} {y m f : Str} {g : List D → R D} {ks : List Sh} {W : WX} {e c : Expr} {es : List Expr} {p p' pos pos' apos : Pos} {t : TA} {tc : TE} {ma : MA} {mc : ME} {rsh s sh : Sh} {C : Addr} {sf : List (Str × Sh)} (K : PySem.W.Frag) (hK : X.K = K)
include hK
end
/-! ### a key and a tuple -/
end VL
/-! V52: making and changing instances, with the module's part named. -/
namespace VL
open PySem PySem.Spec L2
section
variable {X : Cx} {CX : CXT} {k n : Nat} {y m f : Str} {g : List D → R D} {ks : List Sh} {W : WX} {e c value : Expr} {es : List Expr} {p p' p3 pos pos' apos : Pos} {t : TA} {ta tc tv : TE} {ma : MA} {mc mv : ME} {rsh s sh : Sh} {fx : Nat} {C : Addr} {sf : List (Str × Sh)} (K : PySem.W.Frag) (hK : X.K = K)
include hK
end
end VL
/-! V53: reversed(range(n)). -/
namespace VL
open PySem PySem.Spec L2
section
variable {X : Cx} {ks : List Sh} {W : WX} {tg a : Expr} {p q pos pos2 : Pos}
end
end VL
/-! V54: list(d), d a dict: its keys. -/
namespace VL
open PySem PySem.Spec L2
end VL
/-! V55: x[i], x[j] = a, b: two places of an owned list. -/
namespace VL
open PySem PySem.Spec L2
section
variable {X : Cx} {ks : List Sh} {W : WX} {rsh : Sh} {fx : Nat} {e : Expr} {te : TE} {m : ME} {x y z : Str} {p1 p2 p3 p4 p5 p6 pt pos : Pos} {kt : Nat}
end
end VL
set_option maxHeartbeats 1000000
/-! V56: x[a:c] = another list, x owned. -/
namespace VL
open PySem PySem.Spec L2 PyProof.Rows
section
variable {prog : Program} {w : World} {A : Around} {E : Value → Shared → Prop} {s : Shared}
end
section
variable {X : Cx}
end
section
variable {X : Cx} {ks : List Sh} {W : WX} {rsh : Sh} {fx : Nat} {e lo hi : Expr} {te tl th : TE} {m ml mh : ME} {x : Str} {p1 p2 p3 pos : Pos}
end
end VL
/-! V57: an owned list is frozen where it stands, for the rest of a block. -/
namespace VL
open PySem PySem.Spec L2
section
variable {X : Cx} {ks : List Sh} {W : WX} {rsh : Sh} {fx : Nat} {sts : List Stmt} {t : TS} {m : MS}
end
section
variable {ρ : DEnv} {i : Nat} {m : MS}
end
end VL
/-! V58: a list of any things against the empty list. -/
namespace VL
open PySem PySem.Spec L2
end VL
/-! V59: repr of a tuple that holds dicts (and no lists). -/
namespace VL
open PySem PySem.Spec L2
mutual
def D.toPyW : D → PyData
  | .non => .none | .bl b => .bool b | .int i => .int i | .str x => .str x
  | .tup xs => .tuple (toPyWL xs)
  | .dK kvs => .dict (toPyWK kvs)
  | _ => .none
def toPyWL : List D → List PyData
  | [] => []
  | d :: ds => d.toPyW :: toPyWL ds
def toPyWK : List (Key × D) → List (PyData × PyData)
  | [] => []
  | (k, d) :: r => (keyP k, d.toPyW) :: toPyWK r
end
mutual
def D.pyN : D → Bool
  | .non => true | .bl _ => true | .int _ => true | .str x => asc x
  | .tup xs => pyNL xs
  | .dK kvs => pyNK kvs
  | _ => false
def pyNL : List D → Bool
  | [] => true
  | d :: ds => d.pyN && pyNL ds
def pyNK : List (Key × D) → Bool
  | [] => true
  | (k, d) :: r => ascK k && d.pyN && pyNK r
end
mutual
def D.wtW : D → Nat
  | .non => 4 | .bl _ => 5 | .int _ => 2000 | .str x => 10 * x.length + 2
  | .tup xs => wtWL xs + 2 * xs.length + 3
  | .dK kvs => wtWK kvs + 2 * kvs.length + 3
  | _ => 0
def wtWL : List D → Nat
  | [] => 0
  | d :: ds => d.wtW + wtWL ds
def wtWK : List (Key × D) → Nat
  | [] => 0
  | (k, d) :: r => keyW k + d.wtW + 2 + wtWK r
end
theorem pyNK_L : ∀ {kvs : List (Key × D)}, pyNK kvs = true → pyNL (kvs.map Prod.snd) = true
  | [], _ => by rw [List.map_nil, pyNL]
  | (k, d) :: r, h => by
    rw [pyNK, Bool.and_eq_true, Bool.and_eq_true] at h
    rw [List.map_cons, pyNL, Bool.and_eq_true]
    exact ⟨h.1.2, pyNK_L h.2⟩
theorem key_shown {k : Key} (a : ascK k = true) (h : (keyP k).showable = true) : (keyP k).shown.length ≤ keyW k := by
  cases k with
  | inl i =>
    rw [keyP, PyData.showable, decide_eq_true_eq] at h
    exact int_shown h
  | inr x =>
    rw [keyP, PyData.shown]
    exact PySem.StrLaws.reprText_len x fun c m => Nat.lt_of_lt_of_le ((ascE a).1 c m) (by decide)
mutual
theorem D.wtW_le : ∀ (d : D), d.pyN = true → d.toPyW.showable = true → d.toPyW.shown.length ≤ d.wtW
  | .non, _, _ => by rw [D.toPyW, D.wtW]; decide
  | .bl b, _, _ => by rw [D.toPyW, D.wtW]; cases b <;> decide
  | .int i, _, h => by rw [D.toPyW, PyData.showable, decide_eq_true_eq] at h; rw [D.toPyW, D.wtW]; exact int_shown h
  | .str x, a, _ => by
    rw [D.pyN] at a
    rw [D.toPyW, D.wtW, PyData.shown]
    exact PySem.StrLaws.reprText_len x fun c m => Nat.lt_of_lt_of_le ((ascE a).1 c m) (by decide)
  | .tup xs, q, h => by
    rw [D.pyN] at q
    rw [D.toPyW, PyData.showable] at h
    obtain ⟨h1, h2⟩ := wtWL_le xs q h
    rw [D.toPyW, D.wtW, PyData.shown]
    refine Nat.le_trans (PySem.tupleText_len_le _) ?_
    rw [h2]
    omega
  | .dK kvs, q, h => by
    rw [D.pyN] at q
    rw [D.toPyW, PyData.showable] at h
    obtain ⟨h1, h2⟩ := wtWK_le kvs q h
    rw [D.toPyW, D.wtW, PyData.shown]
    refine Nat.le_trans (PySem.dictText_len_le _) ?_
    rw [h2]
    omega
  | .lst _, q, _ => by rw [D.pyN] at q <;> first | cases q | (intros; rintro ⟨⟩)
  | .dT _, q, _ => by rw [D.pyN] at q <;> first | cases q | (intros; rintro ⟨⟩)
  | .ob _ _, q, _ => by rw [D.pyN] at q <;> first | cases q | (intros; rintro ⟨⟩)
  | .fin _ _, q, _ => by rw [D.pyN] at q <;> first | cases q | (intros; rintro ⟨⟩)
  | .exv _ _, q, _ => by rw [D.pyN] at q <;> first | cases q | (intros; rintro ⟨⟩)
  | .scr _, q, _ => by rw [D.pyN] at q <;> first | cases q | (intros; rintro ⟨⟩)
  | .rp _, q, _ => by rw [D.pyN] at q <;> first | cases q | (intros; rintro ⟨⟩)
  | .ty _, q, _ => by rw [D.pyN] at q <;> first | cases q | (intros; rintro ⟨⟩)
  | .key _, q, _ => by rw [D.pyN] at q <;> first | cases q | (intros; rintro ⟨⟩)
theorem wtWL_le : ∀ (ds : List D), pyNL ds = true → PyData.showableAll (toPyWL ds) = true → ((PyData.shownAll (toPyWL ds)).map (·.length)).sum ≤ wtWL ds ∧ (PyData.shownAll (toPyWL ds)).length = ds.length
  | [], _, _ => by rw [toPyWL, PyData.shownAll, wtWL]; exact ⟨Nat.le_refl _, rfl⟩
  | d :: ds, q, h => by
    rw [pyNL, Bool.and_eq_true] at q
    rw [toPyWL, PyData.showableAll, Bool.and_eq_true] at h
    have h1 := D.wtW_le d q.1 h.1
    obtain ⟨h2, h3⟩ := wtWL_le ds q.2 h.2
    rw [toPyWL, PyData.shownAll, wtWL, List.map_cons, List.sum_cons, List.length_cons, List.length_cons, h3]
    exact ⟨by omega, rfl⟩
theorem wtWK_le : ∀ (kvs : List (Key × D)), pyNK kvs = true → PyData.showableKv (toPyWK kvs) = true → ((PyData.shownKv (toPyWK kvs)).map (·.length)).sum ≤ wtWK kvs ∧ (PyData.shownKv (toPyWK kvs)).length = kvs.length
  | [], _, _ => by rw [toPyWK, PyData.shownKv, wtWK]; exact ⟨Nat.le_refl _, rfl⟩
  | (k, d) :: r, q, h => by
    rw [pyNK, Bool.and_eq_true, Bool.and_eq_true] at q
    rw [toPyWK, PyData.showableKv, Bool.and_eq_true, Bool.and_eq_true] at h
    have h0 := key_shown q.1.1 h.1.1
    have h1 := D.wtW_le d q.1.2 h.1.2
    obtain ⟨h2, h3⟩ := wtWK_le r q.2 h.2
    have l2 : ((": " : Str)).length = 2 := rfl
    rw [toPyWK, PyData.shownKv, wtWK, List.map_cons, List.sum_cons, List.length_cons, List.length_cons, h3]
    refine ⟨?_, rfl⟩
    have l : ((keyP k).shown ++ (": " : Str) ++ d.toPyW.shown).length = (keyP k).shown.length + 2 + d.toPyW.shown.length := by
      rw [Str.length_append, Str.length_append, l2]
    rw [l]
    omega
end
theorem kv_vals : ∀ {kvs : List (Key × V)} {vs : List (Key × Value)}, KV kvs vs → Vals (kvs.map Prod.snd) (vs.map Prod.snd)
  | _, _, .nil => .nil
  | _, _, .cons h t => .cons h.2 (kv_vals t)
theorem pairs_of {h : Heap} : ∀ {kvs : List (Key × V)} {vs : List (Key × Value)} {ds : List (Key × D)} {bs : List Addr}, KV kvs vs → kvs.map Prod.fst = ds.map Prod.fst → ReadsAll h (vs.map Prod.snd) (toPyWL (ds.map Prod.snd)) bs →
    ∃ cs, PyProof.V.PairsRead h keyP vs (toPyWK ds) cs ∧ ∀ x ∈ cs, x ∈ bs
  | [], _, [], _, .nil, _, _ => ⟨[], by rw [toPyWK]; exact .nil, fun _ m => by simp at m⟩
  | [], _, _ :: _, _, .nil, e, _ => by cases e
  | _ :: _, _, [], _, _, e, _ => by cases e
  | (k, v) :: kvs, _, (k2, d) :: ds, _, .cons (b := (k3, u)) h1 t, e, r => by
    rw [List.map_cons, List.map_cons] at e
    have e1 := (List.cons.inj e).1
    have e2 := (List.cons.inj e).2
    obtain ⟨h1a, h1b⟩ := h1
    cases (show k = k2 from e1)
    cases (show k = k3 from h1a)
    rw [List.map_cons, List.map_cons, toPyWL] at r
    cases r with
    | cons r1 r2 =>
      obtain ⟨cs, q1, q2⟩ := pairs_of t e2 r2
      refine ⟨_, by rw [toPyWK]; exact .cons r1 q1, fun x m => ?_⟩
      rcases List.mem_append.mp m with m | m
      · exact List.mem_append_left _ m
      · exact List.mem_append_right _ (q2 x m)
theorem key_reads {h : Heap} {k : Key} {v : Value} (e : keyIs k v = true) : Reads h v (keyP k) [] := by
  rcases keyIs_shape e with ⟨i, t, rfl, rfl⟩ | ⟨x, t, rfl, rfl⟩
  · exact .int _ _
  · exact .str _ _
section
variable {X : Cx} {pins : List (Addr × Obj)} {σ : St} {H : Hp} {s : Shared}
mutual
theorem Rep.rdW (I : Inv X pins σ H s) : ∀ {v : V} {d : D}, Rep X.K H v d → d.pyN = true → ∀ {u : Value}, RelV v u → ∃ as, Reads s.heap u d.toPyW as ∧ sysModules ∉ as
  | _, _, .non, _, _, r => by cases r; exact ⟨_, by rw [D.toPyW]; exact Reads.none, by simp⟩
  | _, _, .bl b, _, _, r => by cases r; exact ⟨_, by rw [D.toPyW]; exact Reads.bool b, by simp⟩
  | _, _, .int i, _, _, r => by obtain ⟨t, rfl⟩ := r; exact ⟨_, by rw [D.toPyW]; exact Reads.int i t, by simp⟩
  | _, _, .str x _, _, _, r => by obtain ⟨t, rfl⟩ := r; exact ⟨_, by rw [D.toPyW]; exact Reads.str x t, by simp⟩
  | _, _, .tup e rs, q, _, r => by
    rw [D.pyN] at q
    cases r
    obtain ⟨its, rv, ⟨o, ho, hc, n, hd⟩, _⟩ := I.tuple (e.sq X.K)
    obtain ⟨as, h1, h2⟩ := Reps.rdW I rs q rv
    exact ⟨as, by rw [D.toPyW]; exact Reads.tuple ho hc hd h1, h2⟩
  | _, _, .dK e ek rs, q, _, r => by
    rw [D.pyN] at q
    cases r
    obtain ⟨_, hd, vs, rel, dd⟩ := dk_rd I.hok (.inr ⟨_, e⟩)
    have hv : Vals (List.map Prod.snd _) (vs.map Prod.snd) := kv_vals rel
    obtain ⟨as, h1, h2⟩ := Reps.rdW I rs (pyNK_L q) hv
    obtain ⟨cs, p1, p2⟩ := pairs_of rel ek h1
    refine ⟨_, by rw [D.toPyW]; exact PyProof.V.reads_dictOf (fun k key hk => key_reads hk) dd p1, fun m => ?_⟩
    rcases List.mem_cons.mp m with m | m
    · rw [← m] at hd; simp at hd
    · exact h2 (p2 _ m)
  | _, _, .lst _ _, q, _, _ => by rw [D.pyN] at q <;> first | cases q | (intros; rintro ⟨⟩)
  | _, _, .dT _ _ _, q, _, _ => by rw [D.pyN] at q <;> first | cases q | (intros; rintro ⟨⟩)
  | _, _, .scr _, q, _, _ => by rw [D.pyN] at q <;> first | cases q | (intros; rintro ⟨⟩)
  | _, _, .rp _, q, _, _ => by rw [D.pyN] at q <;> first | cases q | (intros; rintro ⟨⟩)
  | _, _, .ty _, q, _, _ => by rw [D.pyN] at q <;> first | cases q | (intros; rintro ⟨⟩)
  | _, _, .key _ _, q, _, _ => by rw [D.pyN] at q <;> first | cases q | (intros; rintro ⟨⟩)
  | _, _, .ob _ _ _, q, _, _ => by rw [D.pyN] at q <;> first | cases q | (intros; rintro ⟨⟩)
  | _, _, .fin _ _ _ _, q, _, _ => by rw [D.pyN] at q <;> first | cases q | (intros; rintro ⟨⟩)
  | _, _, .exn _ _, q, _, _ => by rw [D.pyN] at q <;> first | cases q | (intros; rintro ⟨⟩)
  | _, _, .exv _ _ _ _ _, q, _, _ => by rw [D.pyN] at q <;> first | cases q | (intros; rintro ⟨⟩)
theorem Reps.rdW (I : Inv X pins σ H s) : ∀ {vs : List V} {ds : List D}, Reps X.K H vs ds → pyNL ds = true → ∀ {us : List Value}, Vals vs us → ∃ as, ReadsAll s.heap us (toPyWL ds) as ∧ sysModules ∉ as
  | _, _, .nil, _, _, r => by cases r; exact ⟨[], by rw [toPyWL]; exact .nil, by simp⟩
  | _, _, .cons h t, q, _, r => by
    rw [pyNL, Bool.and_eq_true] at q
    cases r with
    | cons r1 r2 =>
      obtain ⟨as, h1, h2⟩ := Rep.rdW I h q.1 r1
      obtain ⟨bs, h3, h4⟩ := Reps.rdW I t q.2 r2
      exact ⟨as ++ bs, by rw [toPyWL]; exact .cons h1 h3, fun m => (List.mem_append.mp m).elim h2 h4⟩
end
end
end VL
/-! V60: x[i] = e in an owned list. -/
namespace VL
open PySem PySem.Spec L2
section
variable {X : Cx} {ks : List Sh} {W : WX} {rsh : Sh} {fx : Nat} {e : Expr} {te : TE} {m : ME} {x y z : Str} {p1 p2 p3 p4 p5 p6 pt pos : Pos} {kt : Nat}
end
end VL
/-! V61: x.extend(t) of an owned list, t a tuple. -/
namespace VL
open PySem PySem.Spec L2
end VL
/-! V62: count of texts in a tuple. -/
namespace VL
open PySem PySem.Spec L2
section
variable {X : Cx} {ks : List Sh} {W : WX} {o e : Expr} {to te : TE} {m mx : ME} {apos cpos : Pos}
end
end VL
/-! V63: x.split(y), texts cut. -/
namespace VL
open PySem PySem.Spec L2
end VL
set_option maxHeartbeats 4000000
/-! V64: sorted(set(x)), x a tuple or a list of texts. -/
namespace VL
open PySem PySem.Spec L2
/-- the set at a holds the texts l, each once; its table rises and can be walked -/
def SetX (P : Program) (w : World) (h : Heap) (a : Addr) (l : List Str) : Prop :=
  ∃ D : Froz.SD, h.get? a = some (Froz.sObj "set" D) ∧ Froz.TxOk P w D l ∧ Ris D.2.2.place.toList ∧ (w.params.followText "set-order" = true ∨ D.2.2.led = true)
theorem SetX.at {P : Program} {w : World} {h h' : Heap} {a : Addr} {l : List Str} (R : SetX P w h a l) (k : ∀ o, h.get? a = some o → h'.get? a = some o) : SetX P w h' a l := by
  obtain ⟨D, h1, r⟩ := R
  exact ⟨D, k _ h1, r⟩
section
variable {P : Program} {w : World} {A : Around} {E : Value → Shared → Prop} {s : Shared}
end
end VL
/-! V65: sorted(set(x)), x a tuple or a list of texts: the rule. -/
namespace VL
open PySem PySem.Spec L2
section
variable {P : Program} {w : World} {A : Around} {E : Value → Shared → Prop} {s : Shared}
end
section
variable {X : Cx}
variable {ks0 : List Sh} {W : WX} {e1 : Expr} {t : TA} {p p2 q pos : Pos}
end
end VL
set_option maxHeartbeats 1000000
/-! V66: methods that change their object and an owned dict handed in; methods of an object just made. -/
namespace VL
open PySem PySem.Spec L2
section
variable {K : PySem.W.Frag} {F1 H1 F' H' : Hp} {fa gb fp1 fp' fv gp : List Addr}
end
section
variable {X : Cx} {CX : CXT} {k : Nat} {y z m : Str} {g : List D → R D} {ks : List Sh} {W : WX} {e dd : Expr} {p p' pz pos apos : Pos} {te td to : TE} {me md mo : ME} {rsh s2 : Sh} {C : Addr} {sf : List (Str × Sh)}
end
section
variable {X : Cx} {CX : CXT} {k : Nat} {y z m : Str} {g : List D → R D} {ks : List Sh} {W : WX} {e dd ob : Expr} {p p' pz pos apos : Pos} {te td to : TE} {me md mo : ME} {rsh s2 : Sh} {C : Addr} {sf : List (Str × Sh)} (K : PySem.W.Frag) (hK : X.K = K)
include hK
end
end VL
set_option maxHeartbeats 1000000
/-! V67: frozen instances: made, their fields read, their methods called. -/
namespace VL
open PySem PySem.Spec L2
theorem OF.frozen {K : PySem.W.Frag} {F H G : Hp} (s0 : Same F G) : ∀ {sf : List (Str × Sh)} {fv : List (Str × V)} {fd : List (Str × D)} {fp : List Addr}, OF K F H sf fv fd fp → (∀ a ∈ fp, Frzd (H a) (G a)) → fv.map Prod.fst = fd.map Prod.fst ∧ Reps K G (fv.map Prod.snd) (fd.map Prod.snd)
  | _, _, _, _, .nil, _ => ⟨rfl, .nil⟩
  | _, _, _, _, .cons o t, h => by
    obtain ⟨e, r⟩ := OF.frozen s0 t fun a m => h a (List.mem_append_right _ m)
    exact ⟨by rw [List.map_cons, List.map_cons, e], .cons (o.frozen s0 fun a m => h a (List.mem_append_left _ m)) r⟩
section
variable {X : Cx} {CX : CXT} {k n : Nat} {c f : Str} {g : List D → R D} {ks : List Sh} {W : WX} {e a : Expr} {es : List Expr} {pos apos : Pos} {t : TE} {ta : TA} {m : ME} {ma : MA} {rsh : Sh} {C : Addr} {sf : List (Str × Sh)}
end
section
variable {X : Cx} {CX : CXT} {k n : Nat} {c f : Str} {g : List D → R D} {ks : List Sh} {W : WX} {o e : Expr} {es : List Expr} {pos apos : Pos} {t : TE} {ta : TA} {m : ME} {ma : MA} {rsh : Sh} {C : Addr} {sf : List (Str × Sh)} (K : PySem.W.Frag) (hK : X.K = K)
include hK
end
end VL
/-! V68: str(n). -/
namespace VL
open PySem PySem.Spec L2
end VL
/-! V69: t[::i] of a tuple, i being 1 or -1. -/
namespace VL
open PySem PySem.Spec L2
section
variable {prog : Program} {w : World} {A : Around} {E : Value → Shared → Prop} {s : Shared}
end
section
variable {X : Cx} {a c : Expr} {ta tc : TE} {pos p2 : Pos}
end
end VL
/-! V70: min(i, j, k). -/
namespace VL
open PySem PySem.Spec L2
section
variable {X : Cx} {K : PySem.W.Frag}
def three (f : D → D → D → Option D) : List D → Option D
  | [a, b, c] => f a b c
  | _ => none
end
end VL
/-! V71: a, b = x, y with plain local names. -/
namespace VL
open PySem PySem.Spec L2
section
variable {X : Cx} {ks : List Sh} {W : WX} {rsh : Sh} {fx : Nat} {x y : Str} {a b : Expr} {ta : TA} {ma : MA} {px py pt pos pt2 : Pos} {kt k2 : Nat}
end
end VL
/-! V72: a dict of the module, texts to whole numbers: x in T, T[x]. -/
namespace VL
open PySem PySem.Spec L2
/-- its entries -/
def Ents : List (Str × Int) → List DictEntry → Prop
  | [], [] => True
  | (x, i) :: l, e :: es => (∃ t, e.key = .str x t) ∧ (∃ t, e.val = .int i t) ∧ Ents l es
  | _, _ => False
theorem ents_find : ∀ {l : List (Str × Int)} {es : List DictEntry}, Ents l es → ∀ z : Str, (match l.lookup z with
    | some i => ∃ e t, es.find? (·.key.isStr z) = some e ∧ e.val = .int i t
    | none => es.find? (·.key.isStr z) = none)
  | [], [], _, z => rfl
  | (x, i) :: l, e :: es, h, z => by
    obtain ⟨⟨t, h1⟩, ⟨t2, h2⟩, h3⟩ := h
    have ih := ents_find h3 z
    have ek : e.key.isStr z = (x == z) := by rw [h1]; rfl
    rw [List.find?_cons, ek, List.lookup_cons]
    by_cases c : z = x
    · subst c
      rw [beq_self_eq_true]
      exact ⟨e, t2, rfl, h2⟩
    · have c1 : (x == z) = false := beq_eq_false_iff_ne.mpr fun q => c q.symm
      have c2 : (z == x) = false := beq_eq_false_iff_ne.mpr c
      rw [c1, c2]
      exact ih
  | [], _ :: _, h, _ => h.elim
  | _ :: _, [], h, _ => h.elim
theorem ents_ref : ∀ {l : List (Str × Int)} {es : List DictEntry}, Ents l es → es.any (·.refKey) = false
  | [], [], _ => rfl
  | (x, i) :: l, e :: es, h => by
    obtain ⟨⟨t, h1⟩, _, h3⟩ := h
    rw [List.any_cons, ents_ref h3, Bool.or_false]
    unfold DictEntry.refKey
    rw [h1]
  | [], _ :: _, h => h.elim
  | _ :: _, [], h => h.elim
structure KTab (K : PySem.W.Frag) (w : World) (d : Addr) (l : List (Str × Int)) : Prop where
  ex : ∃ es n, KDict K w d es n ∧ Ents l es.toList
theorem KTab.ns {K : PySem.W.Frag} {w : World} {d : Addr} {l : List (Str × Int)} (T : KTab K w d l) (z : Str) : (match l.lookup z with
    | some i => ∃ t, PySem.W.nsIn K d z = some (some (.int i t))
    | none => PySem.W.nsIn K d z = some none) := by
  obtain ⟨es, n, D, he⟩ := T.ex
  have f := ents_find he z
  have e : PySem.W.nsIn K d z = (match es.toList.find? (·.key.isStr z) with
      | some e => some (some e.val)
      | none => if es.toList.any (·.refKey) then none else some none) := by
    unfold PySem.W.nsIn
    rw [D.at_]
    rfl
  cases q : l.lookup z with
  | some i =>
    rw [q] at f
    obtain ⟨en, t, f1, f2⟩ := f
    refine ⟨t, ?_⟩
    rw [e, f1]
    show some (some en.val) = _
    rw [f2]
  | none =>
    rw [q] at f
    show PySem.W.nsIn K d z = some none
    have f : es.toList.find? (·.key.isStr z) = none := f
    rw [e, f]
    dsimp only
    rw [ents_ref he]; rfl
section
variable {X : Cx} {ks : List Sh} {W : WX} {e : Expr} {te : TE} {me : ME} {nm : Str} {d : Addr} {l : List (Str × Int)} {p pos : Pos}
end
end VL
/-! V73: a walk over zip of two lists. -/
namespace VL
open PySem PySem.Spec L2
end VL
/-! V74: dict of a list of pairs whose first ones are tuples of texts and numbers. -/
namespace VL
open PySem PySem.Spec L2
section
variable {X : Cx} {pins : List (Addr × Obj)} {σ : St} {H : Hp} {s : Shared}
end
/-! ### the values -/
section
variable {K : PySem.W.Frag}
end
section
variable {X : Cx} (K : PySem.W.Frag) (hK : X.K = K)
include hK
end
end VL
/-! V75: == of two dicts whose keys are tuples, their values True. -/
namespace PySem.W
open Lean Elab Tactic Meta PySem PySem.Calls PyProof.Rows PyProof.V PySem.Spec
section
variable {prog : Program} {w : World} {K : Type} [DecidableEq K] {knd : HeapKind prog w K} {A : Around} {E : Value → Shared → Prop} {s : Shared}
end
end PySem.W
namespace VL
open PySem PySem.Spec L2
end VL
set_option maxHeartbeats 1000000
/-! V76: a comprehension over an owned list that stays its owner's; calls that change two owned things. -/
namespace VL
open PySem PySem.Spec L2
section
variable {K : PySem.W.Frag} {ks : List Sh} {F H : Hp} {ρ : DEnv} {σ : St} {fp : List Addr} {i : Nat}
end
section
variable {X : Cx} {ks : List Sh} {W : WX}
end
/-! ### f(x, y, ..): x of slot i, y of slot j, both may be changed -/
section
variable {X : Cx} {ks : List Sh} {W : WX} {CX : CXT} {k n : Nat} {rsh s0 s2 : Sh} {g : List D → R D} {x : Str} {p pos : Pos} {es : List Expr} {t : TA} {ma : MA}
end
end VL
/-! V77: a tuple times a number, whatever their sizes. -/
namespace VL
open PySem PySem.Spec L2 PyProof.Rows
open PyProof.Rows (IsTup)
section
variable {X : Cx} (K : PySem.W.Frag) (hK : X.K = K)
include hK
end
end VL
/-! V78: True + 1, True - 1, str(n) and str(True) as texts, a tuple of any things against the empty one. -/
namespace VL
open PySem PySem.Spec L2
/-! str -/
/-! a tuple of any things against the empty one -/
end VL
/-! V79: == of two lists of shown texts, as many in both. -/
namespace VL
open PySem PySem.Spec L2
end VL
set_option maxHeartbeats 1000000
/-! V80: methods of lists that fields hold; what they are given is reckoned while the instance is lent (its leaf fields can be read). -/
namespace VL
open PySem PySem.Spec L2
mutual
/-- no frozen instance within -/
def D.nf : D → Bool
  | .non => true | .bl _ => true | .int _ => true | .str _ => true
  | .tup xs => nfL xs | .lst xs => nfL xs
  | .dK kvs => nfK kvs | .dT kvs => nfT kvs
  | .ob _ _ => true | .fin _ _ => false | .exv _ _ => false | .scr _ => true | .rp _ => true | .ty _ => true | .key _ => true
def nfL : List D → Bool
  | [] => true
  | d :: ds => d.nf && nfL ds
def nfK : List (Key × D) → Bool
  | [] => true
  | (_, d) :: r => d.nf && nfK r
def nfT : List (List Key × D) → Bool
  | [] => true
  | (_, d) :: r => d.nf && nfT r
end
theorem nfK_L : ∀ {kvs : List (Key × D)}, nfK kvs = true → nfL (kvs.map Prod.snd) = true
  | [], _ => by rw [List.map_nil, nfL]
  | (k, d) :: r, h => by
    rw [nfK, Bool.and_eq_true] at h
    rw [List.map_cons, nfL, Bool.and_eq_true]
    exact ⟨h.1, nfK_L h.2⟩
theorem nfT_L : ∀ {kvs : List (List Key × D)}, nfT kvs = true → nfL (kvs.map Prod.snd) = true
  | [], _ => by rw [List.map_nil, nfL]
  | (k, d) :: r, h => by
    rw [nfT, Bool.and_eq_true] at h
    rw [List.map_cons, nfL, Bool.and_eq_true]
    exact ⟨h.1, nfT_L h.2⟩
/-- all but instances stand in both -/
def SameI (F G : Hp) : Prop := ∀ a o, F a = some o → (∀ C dx fv, o ≠ .ins C dx fv) → G a = some o
mutual
theorem Rep.nfS {K : PySem.W.Frag} {F G : Hp} (s : SameI F G) : ∀ {v : V} {d : D}, Rep K F v d → d.nf = true → Rep K G v d
  | _, _, .non, _ => .non
  | _, _, .bl b, _ => .bl b
  | _, _, .int i, _ => .int i
  | _, _, .str x h, _ => .str x h
  | _, _, .tup h r, q => by
    rw [D.nf] at q
    obtain ⟨us, e⟩ := h
    exact .tup ⟨us, s _ _ e (by intro _ _ _ z; cases z)⟩ (Reps.nfS s r q)
  | _, _, .lst h r, q => by
    rw [D.nf] at q
    exact .lst (s _ _ h (by intro _ _ _ z; cases z)) (Reps.nfS s r q)
  | _, _, .dK h e r, q => by
    rw [D.nf] at q
    exact .dK (s _ _ h (by intro _ _ _ z; cases z)) e (Reps.nfS s r (nfK_L q))
  | _, _, .dT h e r, q => by
    rw [D.nf] at q
    exact .dT (s _ _ h (by intro _ _ _ z; cases z)) e (Reps.nfS s r (nfT_L q))
  | _, _, .scr h, _ => by
    refine .scr ?_
    rcases h with (h | ⟨o, h⟩) | h
    · exact .inl (.inl (s _ _ h (by intro _ _ _ z; cases z)))
    · exact .inl (.inr ⟨o, s _ _ h (by intro _ _ _ z; cases z)⟩)
    · exact .inr h
  | _, _, .rp p, _ => .rp p
  | _, _, .ty n, _ => .ty n
  | _, _, .key h e, _ => .key (s _ _ h (by intro _ _ _ z; cases z)) e
  | _, _, .ob a c fs, _ => .ob a c fs
  | _, _, .fin _ _ _ _, q => by rw [D.nf] at q; cases q
  | _, _, .exn _ _, q => by rw [D.nf] at q; cases q
  | _, _, .exv _ _ _ _ _, q => by rw [D.nf] at q; cases q
theorem Reps.nfS {K : PySem.W.Frag} {F G : Hp} (s : SameI F G) : ∀ {vs : List V} {ds : List D}, Reps K F vs ds → nfL ds = true → Reps K G vs ds
  | _, _, .nil, _ => .nil
  | _, _, .cons h r, q => by
    rw [nfL, Bool.and_eq_true] at q
    exact .cons (Rep.nfS s h q.1) (Reps.nfS s r q.2)
end
section
variable {K : PySem.W.Frag} {ks : List Sh} {F H : Hp} {ρ : DEnv} {σ : St} {fp : List Addr} {i : Nat} {C : Addr} {sf : List (Str × Sh)} {c c' : Str} {fd : List (Str × D)}
variable {f : Str} {j : Nat}
end
section
variable {X : Cx} {ks : List Sh} {W : WX} {e : Expr} {es : List Expr} {y f name : Str} {id : String} {p pos apos cpos : Pos} {C : Addr} {sf : List (Str × Sh)} {r : V → List V → Hp → VK → Prop} {g : List D → List D → Option (D × List D)} {t : TA} {args : MA} {c : Str} (K : PySem.W.Frag) (hK : X.K = K)
include hK
end
end VL
/-! V81: tuple(self.f), f a list. -/
namespace VL
open PySem PySem.Spec L2
section
variable {X : Cx} {ks : List Sh} {W : WX} {a : Expr} {p pos : Pos} {ta : TE} {m : ME}
end
end VL
/-! V82: t[2:0:-1] of a tuple of at least three things. -/
namespace VL
open PySem PySem.Spec L2
section
variable {prog : Program} {w : World} {A : Around} {E : Value → Shared → Prop} {s : Shared}
end
section
variable {X : Cx} {a l h c : Expr} {ta tl th tc : TE} {pos p2 : Pos}
end
end VL
/-! V83: try: .. except B: suite, without a name -/
namespace VL
open PySem PySem.Spec L2 PyProof.Rows
section
variable {X : Cx} {ks : List Sh} {W : WX} {rsh : Sh} {fx : Nat} {x : Str} {c : Value} {body suite : List Stmt} {b₀ : Stmt} {np pos pos' : Pos} {mb ms : MS}
end
end VL
/-! V84: exceptions as values: made without raise, asked by isinstance, their fields read. -/
namespace VL
open PySem PySem.Spec L2
open PyProof.Rows (IntsAre)
/-- a new object laid at a place that held none -/
theorem inv_laidN {X : Cx} {pins : List (Addr × Obj)} {σ : St} {H : Hp} {s : Shared} {h' : Heap} {a : Addr} {o : HO} {t' : Nat} (I : Inv X pins σ H s) (k : ∀ b u, s.heap.get? b = some u → h'.get? b = some u) (hp : s.heap.get? a = none) (new : ObjOk X.prog X.w (upd H a o) h' a o) :
    Inv X pins σ (upd H a o) { s with heap := h', toks := t' } := by
  have hn : H a = none := I.hok.gone hp
  have ne : ∀ {b : Addr} {u : Obj}, s.heap.get? b = some u → b ≠ a := fun {b u} e z => by rw [z, hp] at e; cases e
  refine I.un ⟨fun b u q _ _ _ => k b u q, fun b u q _ _ _ => ⟨u.slots, k b u q⟩, fun b u q n _ => by rw [upd_ne (ne q)]; exact n, fun b u q _ => ⟨u, k b u q⟩, fun b xs q => by rw [upd_ne (ne_of_none q hn)]; exact q,
    fun b u xs q => by rw [upd_ne (ne_of_none q hn)]; exact q, fun b ps q => ⟨#[], by rw [upd_ne (ne_of_none q hn), q]; simp⟩⟩ fun b u e => ?_
  by_cases hb : b = a
  · subst hb; rw [upd_same] at e; cases e; exact new
  · rw [upd_ne hb] at e
    exact (I.hok b u e).stay (fun c v _ q => k c v q) (fun c q => by rw [upd_ne (ne_of_none q hn)]; exact q) fun c xs q => by rw [upd_ne (ne_of_none q hn)]; exact q
section
variable {X : Cx} {ks : List Sh} {W : WX} {e o : Expr} {es : List Expr} {ta : TA} {te : TE} {ma : MA} {me : ME} {c : Str} {fs : List Str} {C : Addr} {p pos p2 : Pos}
/-! ### made -/
def tExv (C : Addr) (sp : Sp) (ta : TA) : TE := fun σ H Q => ta σ H fun vs H1 => vs.length ≤ 1000 ∧ ∀ a, H1 a = none → sp (.ref a :: vs) (upd H1 a (exo a C none)) (fun v H2 => v = .non ∧ Q (.ref a) H2) (fun _ _ _ => False)
theorem pe_exv {CX : CXT} {x : Str} {fI : Addr} {k : Nat} {fd : FuncData} {ps : List Str} {sp : Sp} (T : OexC X.K C) (iC : PySem.W.findIn X.K (.ref C) "__init__" = some (some (.ref fI))) (tI : PySem.W.typeIn X.K (.ref fI) = some (.type "function"))
    (F1 : FnOk X.prog X.w X.K X.mg X.base CX k fI fd ps sp) (hr : Room (k + 1) X.A) (hb : Binds X.K fd ps []) (hx : Passes CX X (fun _ _ _ => False)) (hg : Gl X x) (hm : X.mg x = some (.ref C)) (ha : PA X (e :: es) ta)
    (hdb : (x == ("__debug__" : Str)) = false := by decide) (he : starEach (e :: es) X.env = (false, eval e X.env) :: starEach es X.env := by rfl) (hpl : (backTo pos (starEach es X.env)).any (·.1) = false := by rfl) :
    PE X (.Call (.Name x p) (e :: es) [] pos) (tExv C sp ta) := by
  refine ⟨fun pins s σ H Q I h => ?_⟩
  obtain ⟨nm, q, N, bs, bm, sn, sub, ab, col, dd, k0, k1, k2, k3, k5, hC, hbm⟩ := T.cls
  refine wpAny_Call_Name_kw (ld_glob I hg hm ?_ hdb)
  refine PySem.W.callWith_K (h₀ := X.base) I.ok.mod.kin T.kC (thn (ha.run pos pins s σ H _ I h) fun us s1 ⟨vs, H1, I1, r1, hz, q1⟩ => ⟨I1.kIn, ?_⟩) he hpl
  show wpAny _ _ (call (.ref C) us) _ _ _
  obtain ⟨hp, g, dr, tk, os⟩ := s1
  have hsz : hp.objs.size ≤ hp.objs.size + 1 := Nat.le_succ _
  have hn : H1 (hp.objs.size + 1) = none := I1.hok.fresh hsz
  have hq := q1 (hp.objs.size + 1) hn
  have kk : ∀ b o, hp.get? b = some o → ((hp.push (PySem.W.kdv_tup us)).push (PySem.HandSPX.excO C hp.objs.size)).get? b = some o := fun b o e => Heap.get?_push_of_some _ (Heap.get?_push_of_some _ e)
  have hget : ((hp.push (PySem.W.kdv_tup us)).push (PySem.HandSPX.excO C hp.objs.size)).get? (hp.objs.size + 1) = some (PySem.HandSPX.excO C hp.objs.size) := by heap_get
  have I2 : Inv X pins σ (upd H1 (hp.objs.size + 1) (exo (hp.objs.size + 1) C none)) ⟨(hp.push (PySem.W.kdv_tup us)).push (PySem.HandSPX.excO C hp.objs.size), g, dr, tk, os⟩ :=
    I1.laid (t' := tk) (a := hp.objs.size + 1) (o := exo (hp.objs.size + 1) C none) (h' := (hp.push (PySem.W.kdv_tup us)).push (PySem.HandSPX.excO C hp.objs.size)) kk hsz (exo_ok hget)
  have r2 : Vals (V.ref (hp.objs.size + 1) :: vs) (Value.ref (hp.objs.size + 1) :: us) := .cons rfl r1
  have hl : (Value.ref (hp.objs.size + 1) :: us ++ ([] : List Value)).length = ps.length := by
    have e := r2.length
    rw [F1.len _ _ _ _ hq] at e
    rw [List.append_nil]
    exact e.symm
  have hb' := hb ⟨(hp.push (PySem.W.kdv_tup us)).push (PySem.HandSPX.excO C hp.objs.size), g, dr, tk, os⟩ (Value.ref (hp.objs.size + 1) :: us) I2.kIn hl
  rw [List.append_nil] at hb'
  have hus : us.length ≤ sizeLine := by
    rw [← Paired.length r1, sizeLine_eq]
    omega
  refine wpAny_call (PySem.HandSPX.call_own PySem.F.excBase_ValueError (fun Y => PySem.HandSPX.refsVE_contains Y bm hbm) (I1.kIn _ _ hC) (PySem.W.looks_findIn I1.kIn iC) (fun self => PySem.W.bind_fn I1.kIn self tI) hus
    (codeAny_mono (F1.run _ X.stack _ _ ⟨Value.ref (hp.objs.size + 1) :: us, []⟩ (Value.ref (hp.objs.size + 1) :: us) _ _ (fun _ _ _ => False) (hr.make C us []) (I2.env0.make C us []) hb' r2 hq) fun r s' hq' => ?_))
  cases r with
  | error er => exact hx pins σ _ _ er s' I2 hq'
  | ok fl =>
    cases fl with
    | ret u =>
      obtain ⟨v, H', I3, rv, ev, q3⟩ := I2.after hq'
      subst ev
      exact ⟨rv, ⟨V.ref (hp.objs.size + 1), H', I3, rfl, q3⟩⟩
    | next => exact False.elim hq'
    | brk => exact False.elim hq'
    | cont => exact False.elim hq'
def mExv (c : Str) (fs : List Str) (a : MA) : ME := fun ρ => (a ρ).bind fun ds ρ1 => if ds.length = fs.length then .ok (.exv c ((fs.zip ds).reverse)) ρ1 else .no
theorem ev_exv (Z : ExK X.prog X.w X.K X.mg X.base c fs C) (nC : PySem.W.nsIn X.K mainGlobals c = some (some (.ref C))) (hr : Room 2 X.A) (hfs : fs.length ≤ 1000) (ha : EA X ks W (e :: es) ta ma) (hg : Gl X c := by rfl) (hdb : (c == ("__debug__" : Str)) = false := by decide)
    (he : starEach (e :: es) X.env = (false, eval e X.env) :: starEach es X.env := by rfl) (hpl : (backTo pos (starEach es X.env)).any (·.1) = false := by rfl) :
    EV X ks W (.Call (.Name c p) (e :: es) [] pos) .leaf (tExv C (spI X.K C fs) ta) (mExv c fs ma) := by
  obtain ⟨fI, fd, ps, iC, tI, F1, hb⟩ := Z.iC
  refine ⟨pe_exv (k := 1) Z.ox iC tI F1 hr hb pass0 hg Z.gC ha.pe hdb he hpl, fun ρ σ F H fp Q r hok => ?_⟩
  unfold mExv at hok
  refine ha.sd.go r (Ok := OkE (bd X ks W) .leaf F H fp σ Q) hok (fun z => z) (fun _ _ z => z) fun ds ρ1 vs F1 H1 fp1 h1 r1 x1 p1 => ?_
  by_cases hn : ds.length = fs.length
  · rw [if_pos hn] at h1
    have hv : vs.length = fs.length := p1.length.trans hn
    refine ⟨by omega, fun a na => ⟨a, vs, rfl, hv, upd_same, fun dx H' ndx ne e1 e2 e3 => ⟨rfl, ?_⟩⟩⟩
    have nd1 : H1 dx = none := by rw [upd_ne ne] at ndx; exact ndx
    obtain ⟨F', eF⟩ : ∃ F', F' = upd (upd F1 a (exo a C (some dx))) dx (exd dx (zipr fs vs)) := ⟨_, rfl⟩
    have fa : F' a = some (exo a C (some dx)) := by rw [eF, upd_ne (Ne.symm ne), upd_same]
    have fdx : F' dx = some (exd dx (zipr fs vs)) := by rw [eF, upd_same]
    have fo : ∀ b, b ≠ a → b ≠ dx → F' b = F1 b := fun b n1 n2 => by rw [eF, upd_ne n2, upd_ne n1]
    have ho : ∀ b, b ≠ a → b ≠ dx → H' b = H1 b := fun b n1 n2 => by rw [e3 b n1 n2, upd_ne n1]
    have sb : Sub F' H' := by
      refine ⟨fun b o z => ?_, fun b xs z => ?_⟩
      · by_cases q1 : b = a
        · rw [q1] at z ⊢
          rw [← z, fa]; exact e1
        · by_cases q2 : b = dx
          · rw [q2] at z ⊢
            rw [← z, fdx]; exact e2
          · rw [fo b q1 q2] at z
            rw [ho b q1 q2]; exact r1.sub b o z
      · by_cases q1 : b = a
        · rw [q1, e1] at z
          exact absurd (Option.some.inj z) exo_tup
        · by_cases q2 : b = dx
          · rw [q2, e2] at z
            exact absurd (Option.some.inj z) exd_tup
          · rw [ho b q1 q2] at z
            rw [fo b q1 q2]; exact r1.sub.tp b xs z
    have al : Alc F1 H1 F' H' := ⟨sb, fun b o z => by
      have n1 : b ≠ a := fun q => by rw [q, na] at z; cases z
      have n2 : b ≠ dx := fun q => by rw [q, nd1] at z; cases z
      exact ⟨(ho b n1 n2).trans z, fo b n1 n2⟩⟩
    obtain ⟨r2, nd2, x2⟩ := al.rel (fv := []) r1 (fun _ m => by simp at m) List.nodup_nil
    rw [List.append_nil] at x2
    have sm : Same F1 F' := al.same r1.sub
    refine h1 (.ref a) F' H' fp1 [] r2 (by rw [List.append_nil]; exact r2.nd) (by rw [List.append_nil]; exact x1.trans x2) (.leaf (.exv nC fa fdx ?_ ?_))
    · rw [zip_fst hn]
      show ((fs.zip vs).reverse).map Prod.fst = _
      rw [List.map_reverse, List.map_fst_zip (by omega)]
    · rw [zip_snd hn]
      show Reps _ _ (((fs.zip vs).reverse).map Prod.snd) _
      rw [List.map_reverse, List.map_snd_zip (by omega)]
      exact (p1.mono sm).reverse
  · rw [if_neg hn] at h1; exact (show False from h1).elim
/-- C("..."), C without fields -/
theorem ev_exn {m : Str} {j} (Z : ExN X.K X.mg c C) (nC : PySem.W.nsIn X.K mainGlobals c = some (some (.ref C))) (hg : Gl X c := by rfl) (hdb : (c == ("__debug__" : Str)) = false := by decide) :
    EV X ks W (.Call (.Name c p) [.Constant (.str m) j p2] [] pos) .leaf (fun _ H Q => ∀ a, H a = none → Q (.ref a) (upd H a (exo a C none))) (mC (.exv c [])) := by
  obtain ⟨B, newId, initId, bmB, FB, q⟩ := Z.ex
  refine ⟨⟨fun pins s σ H Q I h => ?_⟩, fun ρ σ F H fp Q r hok a na => ?_⟩
  · refine wpAny_Call_Name_kw (ld_glob I hg Z.gC ?_ hdb)
    have ha : PA X [.Constant (.str m) j p2] (tCons (tC (.str m)) tNil) := pa_cons pe_str pa_nil
    refine PySem.W.callWith_K (h₀ := X.base) I.ok.mod.kin Z.kC (thn (ha.run pos pins s σ H (fun vs H1 => vs = [V.str m] ∧ H = H1) I ⟨rfl, rfl⟩) fun us s1 hh => ?_)
    obtain ⟨vs, H1, I1, r1, ev, eH⟩ := hh
    subst ev
    rw [← eH] at I1
    refine ⟨I1.kIn, ?_⟩
    cases r1 with
    | cons ru rn =>
      rename_i u us'
      cases rn
      show wpAny _ _ (call (.ref C) [u]) _ _ _
      obtain ⟨bm, N, nm, qn, bs, hdct, sn, sub, ab, col, dd, k0, k1, k2, k3, k5, mN, hC, hN, hni, T⟩ := exc_obj I1.kIn q
      refine wpAny_call_exc_subT FB T hC hN hni (fun h' e hm => ?_) (by show 1 ≤ sizeLine; rw [sizeLine_eq]; omega)
      obtain ⟨t1, he, _, _⟩ := hm.there
      exact ⟨.ref e, upd H e (exo e C none), inv_laidN (t' := s1.toks) I1 hm.keeps hm.new (exo_ok he), rfl, h e (I1.hok.gone hm.new)⟩
  · obtain ⟨r2, nd2, x2⟩ := (upd_alc (o := exo a C none) r.sub na).rel (fv := []) r (fun _ m => by simp at m) List.nodup_nil
    rw [List.append_nil] at x2
    exact hok (.ref a) _ _ fp [] r2 (by rw [List.append_nil]; exact r2.nd) (by rw [List.append_nil]; exact x2) (.leaf (.exn nC upd_same))
/-! ### isinstance(e, C), isinstance(e, (C, ..)) -/
def rIsV (K : PySem.W.Frag) : List V → Hp → VK → Prop := fun xs H Q =>
  ∃ a C od, H a = some (exo a C od) ∧ ExcC K C ∧ (∀ dd, od = some dd → ∃ fs, H dd = some (exd dd fs)) ∧ ∃ b, IsAns K H C xs a b ∧ Q (.bl b) H
theorem call_isV : CallR X (.builtin "isinstance") (rIsV X.K) := by
  intro pins s σ H xs us Q I r h
  obtain ⟨a, C, d, ea, E, hd, b, hans, q⟩ := h
  obtain ⟨⟨t1, hget⟩, _, _⟩ := I.hok a _ ea
  have J : ∃ oe od, PySem.W.InstAt s.heap a oe C od := by
    cases d with
    | none => exact ⟨_, none, hget, rfl, rfl, trivial⟩
    | some dd =>
      obtain ⟨fs, ed⟩ := hd dd rfl
      obtain ⟨⟨mA, hns, hr⟩, _, _⟩ := I.hok dd _ ed
      obtain ⟨od, ho, hl⟩ := lookIn_ns hns
      exact ⟨_, some od, hget, rfl, rfl, ho⟩
  obtain ⟨oe, od, J⟩ := J
  have KX := PySem.W.kitx_exc (K := X.K) (x := a) (ox := oe) (od := od) (excC_cl E) E.hg E.hk E.hs E.ha E.hn E.ht E.hm
  rcases hans with ⟨c, cv, rfl, hcv, e⟩ | ⟨tp, vs, its, rfl, ht, hv2, e⟩
  · cases r with
    | cons rx rr =>
      cases rr with
      | cons rt rr =>
        cases rr
        cases rx
        have ec := hcv _ rt
        subst ec
        exact PySem.W.kia_one KX I.kIn J e (fun z => nomatch z) fun tk => ⟨.bl b, H, I.kept (t' := tk) fun _ _ z => z, rfl, q⟩
  · cases r with
    | cons rx rr =>
      cases rr with
      | cons rt rr =>
        cases rr
        cases rx
        cases rt
        obtain ⟨its', r1, ⟨⟨tc, dd, data, sl⟩, ho, hc, n, hdt⟩, hs⟩ := I.tuple (ht.sq X.K)
        simp only at hc hdt
        subst hc hdt
        have ei := hv2 _ r1
        subst ei
        exact PySem.W.kia_tup KX I.kIn J ho e (fun z => nomatch z) fun tk => ⟨.bl b, H, I.kept (t' := tk) fun _ _ z => z, rfl, q⟩
def mIsV (me : ME) (tbl : List (Str × Bool)) : ME := fun ρ => (me ρ).bind fun d ρ1 => match d with
  | .exv c _ => (match tbl.lookup c with | some b => .ok (.bl b) ρ1 | none => .no)
  | _ => .no
/-- the facts: each class of the table by the module's names -/
def IsTV (K : PySem.W.Frag) (ans : Addr → Bool → Prop) (tbl : List (Str × Bool)) : Prop := ∀ q ∈ tbl, ∃ C, PySem.W.nsIn K mainGlobals q.1 = some (some (.ref C)) ∧ ExcC K C ∧ ans C q.2
theorem istv_nil {K : PySem.W.Frag} {ans : Addr → Bool → Prop} : IsTV K ans [] := fun _ h => by cases h
theorem istv_cons {K : PySem.W.Frag} {ans : Addr → Bool → Prop} {c : Str} {C : Addr} {b : Bool} {l : List (Str × Bool)} (g : PySem.W.nsIn K mainGlobals c = some (some (.ref C))) (E : ExcC K C) (a : ans C b) (h : IsTV K ans l) : IsTV K ans ((c, b) :: l) := fun q m => by
  rcases List.mem_cons.mp m with rfl | m
  · exact ⟨C, g, E, a⟩
  · exact h q m
theorem Rep.exvE {K : PySem.W.Frag} {F : Hp} {v : V} {c : Str} {fd : List (Str × D)} (h : Rep K F v (.exv c fd)) : ∃ C a od, PySem.W.nsIn K mainGlobals c = some (some (.ref C)) ∧ v = .ref a ∧ F a = some (exo a C od) ∧ (fd = [] ∧ od = none ∨ ∃ dx fv, od = some dx ∧ F dx = some (exd dx fv) ∧ fv.map Prod.fst = fd.map Prod.fst ∧ Reps K F (fv.map Prod.snd) (fd.map Prod.snd)) := by
  cases h with
  | exn n e => exact ⟨_, _, _, n, rfl, e, .inl ⟨rfl, rfl⟩⟩
  | exv n e e2 k r => exact ⟨_, _, _, n, rfl, e, .inr ⟨_, _, rfl, e2, k, r⟩⟩
theorem ev_isV {k : Expr} {vc : V} {cv : Value} (tbl : List (Str × Bool)) (facts : IsTV X.K (fun C b => PySem.W.kitOne X.K (.ref C) cv = some b) tbl)
    (he : EV X ks W e .leaf te me) (hc : PE X k (tC vc)) (rel : ∀ u, RelV vc u → u = cv) (hm : X.mg "isinstance" = none) (hg : Gl X "isinstance" := by rfl)
    (hv : bootBuiltins "isinstance" = some (.builtin "isinstance") := by decide +kernel)
    (h1 : starEach [e, k] X.env = (false, eval e X.env) :: starEach [k] X.env := by rfl) (h2 : starEach [k] X.env = (false, eval k X.env) :: starEach [] X.env := by rfl) (hpl : (backTo pos (starEach [k] X.env)).any (·.1) = false := by rfl) :
    EV X ks W (.Call (.Name "isinstance" p) [e, k] [] pos) .leaf (tCB (rIsV X.K) (tCons te (tCons (tC vc) tNil))) (mIsV me tbl) := by
  refine ⟨pe_callB call_isV hg hm hv (pa_cons he.pe (pa_cons hc pa_nil h2) h1) (by decide) (by decide) h1 hpl, fun ρ σ F H fp Q r hok => ?_⟩
  unfold mIsV at hok
  refine he.sd.go r (Ok := OkE (bd X ks W) .leaf F H fp σ Q) hok (fun z => z) (fun _ _ z => z) fun d ρ1 v F1 H1 fp1 h1 r1 x1 p1 => ?_
  cases d with
  | exv c fd =>
    dsimp only at h1
    cases e1 : tbl.lookup c with
    | none => rw [e1] at h1; exact (show False from h1).elim
    | some b =>
      rw [e1] at h1
      obtain ⟨C, a, od, n1, ev, ea, hd⟩ := p1.exvE
      subst ev
      obtain ⟨C', n2, E, ak⟩ := facts _ (lookup_mem e1)
      have eC : C' = C := by
        have := n2.symm.trans n1
        cases this; rfl
      subst eC
      refine ⟨a, C', od, r1.sub _ _ ea, E, fun dd edd => ?_, b, .inl ⟨vc, cv, rfl, rel, ak⟩, ((h1.ext x1).done r1).here r1.sub (.bl _)⟩
      rcases hd with ⟨_, z⟩ | ⟨dx, fv, z, e2, _⟩
      · rw [z] at edd; cases edd
      · rw [z] at edd; cases edd
        exact ⟨_, r1.sub _ _ e2⟩
  | _ => exact (show False from h1).elim
/-! ### e.f -/
def tXfV (C : Addr) (f : Str) (te : TE) : TE := fun σ H Q => te σ H fun x H1 => ∃ a dd fs v, x = .ref a ∧ H1 a = some (exo a C (some dd)) ∧ H1 dd = some (exd dd fs) ∧ fs.lookup f = some v ∧ Q v H1
theorem pe_xfV {n : Str} (T : XfC X.K C) (hno : PySem.W.findIn X.K (.ref C) n = some none) (he : PE X e te) (hb : attributeBase e n X.env (eval e X.env) = eval e X.env := by rfl) : PE X (.Attribute e n pos) (tXfV C n te) := by
  refine ⟨fun pins s σ H Q I h => ?_⟩
  refine attr_of hb (thn (he.run pins s σ H _ I h) fun u s1 hh => ?_)
  obtain ⟨x, H1, I1, rx, a, dd, fs, v, ex, ea, ed, l, q⟩ := hh
  subst ex
  obtain rfl : u = Value.ref a := rx
  obtain ⟨⟨t1, hget⟩, _, _⟩ := I1.hok a _ ea
  obtain ⟨⟨mA, hns, hr⟩, _, _⟩ := I1.hok dd _ ed
  obtain ⟨od, ho, hl⟩ := lookIn_ns hns
  obtain ⟨u, hu, ru⟩ := RelO.some_of (v := v) (o := mA n) (by rw [← l]; exact hr n)
  have J : PySem.W.InstAt s1.heap a _ C (some od) := ⟨hget, rfl, rfl, ho⟩
  exact HandSPX.exc_get I1.kIn J T.ga T.gg T.exC (PySem.W.findObj_own T.hdC hno rfl (by rw [hl, hu])) (handed_of ru) ⟨v, H1, I1.tok _, ru, q⟩
def mXfV (me : ME) (c f : Str) : ME := fun ρ => (me ρ).bind fun d ρ1 => match d with
  | .exv c' fs => if c' = c then R.of (fs.lookup f) ρ1 else .no
  | _ => .no
theorem reps_look {K : PySem.W.Frag} {F : Hp} {f : Str} {z : D} : ∀ {fv : List (Str × V)} {fd : List (Str × D)}, fv.map Prod.fst = fd.map Prod.fst → Reps K F (fv.map Prod.snd) (fd.map Prod.snd) → fd.lookup f = some z → ∃ v, fv.lookup f = some v ∧ Rep K F v z
  | [], [], _, _, h => by cases h
  | [], _ :: _, e, _, _ => by cases e
  | _ :: _, [], e, _, _ => by cases e
  | (g, v) :: fv, (g', y) :: fd, e, r, h => by
    have e1 : g = g' := (List.cons.inj e).1
    subst e1
    cases r with
    | cons ra rb =>
      rw [List.lookup_cons] at h ⊢
      cases hb : (f == g) with
      | true => rw [hb] at h; cases h; exact ⟨v, rfl, ra⟩
      | false => rw [hb] at h; exact reps_look (List.cons.inj e).2 rb h
theorem ev_fldV {c f : Str} (nC : PySem.W.nsIn X.K mainGlobals c = some (some (.ref C))) (T : XfC X.K C) (no : PySem.W.findIn X.K (.ref C) f = some none) (he : EV X ks W e .leaf te me) (hb : attributeBase e f X.env (eval e X.env) = eval e X.env := by rfl) :
    EV X ks W (.Attribute e f pos) .leaf (tXfV C f te) (mXfV me c f) := by
  refine ⟨pe_xfV T no he.pe hb, fun ρ σ F H fp Q r hok => ?_⟩
  unfold mXfV at hok
  refine he.sd.go r (Ok := OkE (bd X ks W) .leaf F H fp σ Q) hok (fun z => z) (fun _ _ z => z) fun d ρ1 v F1 H1 fp1 h1 r1 x1 p1 => ?_
  cases d with
  | exv c' fd =>
    dsimp only at h1
    by_cases ec : c' = c
    · rw [if_pos ec] at h1
      subst ec
      obtain ⟨C', a, od, n1, ev, ea, hd⟩ := p1.exvE
      subst ev
      have eC : C' = C := by
        have := n1.symm.trans nC
        cases this; rfl
      subst eC
      cases e1 : fd.lookup f with
      | none => rw [e1] at h1; exact (show False from h1).elim
      | some z =>
        rw [e1] at h1
        rcases hd with ⟨z', _⟩ | ⟨dx, fv, z', e2, k, rp⟩
        · rw [z'] at e1; cases e1
        · subst z'
          obtain ⟨v, l1, rv⟩ := reps_look k rp e1
          exact ⟨a, dx, fv, v, rfl, r1.sub _ _ ea, r1.sub _ _ e2, l1, ((h1.ext x1).done r1).here r1.sub rv⟩
    · rw [if_neg ec] at h1; exact (show False from h1).elim
  | _ => exact (show False from h1).elim
end
end VL
namespace VL
open PySem PySem.Spec L2
abbrev P : Program := PySem.Challenge.pw_halforder_k21_refusals_by_hand
def topS (i : Nat) : Stmt := P.main.body.getD i (.Pass ⟨0, 0, 0, 0⟩)
structure Gs (mg : Str → Option Value) : Prop where
  b_ValueError : mg "ValueError" = none
  b_int : mg "int" = none
  b_isinstance : mg "isinstance" = none
  b_len : mg "len" = none
  b_list : mg "list" = none
  b_range : mg "range" = none
  b_repr : mg "repr" = none
  b_tuple : mg "tuple" = none
theorem bt_ValueError : bootBuiltins "ValueError" = some (.type "ValueError") := by decide +kernel
theorem bt_int : bootBuiltins "int" = some (.type "int") := by decide +kernel
theorem bt_len : bootBuiltins "len" = some (.builtin "len") := by decide +kernel
theorem bt_list : bootBuiltins "list" = some (.type "list") := by decide +kernel
theorem bt_repr : bootBuiltins "repr" = some (.builtin "repr") := by decide +kernel
section
variable {w : World} {K : PySem.W.Frag} {mg : Str → Option Value} {base : Heap}
structure Xs (w : World) (K : PySem.W.Frag) (mg : Str → Option Value) (base : Heap) (A_Clash A_HalfError A_NoBound A_NoCover A_NoHalf A_NoJoin A_NoMore A_NoName A_NoOrder A_NoPaper A_NoPlace A_NoPlan A_NoSaying A_NoText A_TooMany : Addr) : Prop where
  g_Clash : mg "Clash" = some (.ref A_Clash)
  g_HalfError : mg "HalfError" = some (.ref A_HalfError)
  g_NoBound : mg "NoBound" = some (.ref A_NoBound)
  g_NoCover : mg "NoCover" = some (.ref A_NoCover)
  g_NoHalf : mg "NoHalf" = some (.ref A_NoHalf)
  g_NoJoin : mg "NoJoin" = some (.ref A_NoJoin)
  g_NoMore : mg "NoMore" = some (.ref A_NoMore)
  g_NoName : mg "NoName" = some (.ref A_NoName)
  g_NoOrder : mg "NoOrder" = some (.ref A_NoOrder)
  g_NoPaper : mg "NoPaper" = some (.ref A_NoPaper)
  g_NoPlace : mg "NoPlace" = some (.ref A_NoPlace)
  g_NoPlan : mg "NoPlan" = some (.ref A_NoPlan)
  g_NoSaying : mg "NoSaying" = some (.ref A_NoSaying)
  g_NoText : mg "NoText" = some (.ref A_NoText)
  g_TooMany : mg "TooMany" = some (.ref A_TooMany)
  z_Clash : ExK P w K mg base "Clash" ["way"] A_Clash
  x_Clash : XfC K A_Clash
  e_Clash : ExcC K A_Clash
  y_Clash : PySem.W.nsIn K mainGlobals "Clash" = some (some (.ref A_Clash))
  n_Clash_way : PySem.W.findIn K (.ref A_Clash) "way" = some none
  z_NoBound : ExK P w K mg base "NoBound" ["word", "row"] A_NoBound
  x_NoBound : XfC K A_NoBound
  e_NoBound : ExcC K A_NoBound
  y_NoBound : PySem.W.nsIn K mainGlobals "NoBound" = some (some (.ref A_NoBound))
  n_NoBound_word : PySem.W.findIn K (.ref A_NoBound) "word" = some none
  n_NoBound_row : PySem.W.findIn K (.ref A_NoBound) "row" = some none
  z_NoCover : ExN K mg "NoCover" A_NoCover
  x_NoCover : XfC K A_NoCover
  e_NoCover : ExcC K A_NoCover
  y_NoCover : PySem.W.nsIn K mainGlobals "NoCover" = some (some (.ref A_NoCover))
  z_NoHalf : ExK P w K mg base "NoHalf" ["word", "number"] A_NoHalf
  x_NoHalf : XfC K A_NoHalf
  e_NoHalf : ExcC K A_NoHalf
  y_NoHalf : PySem.W.nsIn K mainGlobals "NoHalf" = some (some (.ref A_NoHalf))
  n_NoHalf_word : PySem.W.findIn K (.ref A_NoHalf) "word" = some none
  n_NoHalf_number : PySem.W.findIn K (.ref A_NoHalf) "number" = some none
  z_NoJoin : ExK P w K mg base "NoJoin" ["word"] A_NoJoin
  x_NoJoin : XfC K A_NoJoin
  e_NoJoin : ExcC K A_NoJoin
  y_NoJoin : PySem.W.nsIn K mainGlobals "NoJoin" = some (some (.ref A_NoJoin))
  n_NoJoin_word : PySem.W.findIn K (.ref A_NoJoin) "word" = some none
  z_NoMore : ExN K mg "NoMore" A_NoMore
  x_NoMore : XfC K A_NoMore
  e_NoMore : ExcC K A_NoMore
  y_NoMore : PySem.W.nsIn K mainGlobals "NoMore" = some (some (.ref A_NoMore))
  z_NoName : ExK P w K mg base "NoName" ["name"] A_NoName
  x_NoName : XfC K A_NoName
  e_NoName : ExcC K A_NoName
  y_NoName : PySem.W.nsIn K mainGlobals "NoName" = some (some (.ref A_NoName))
  n_NoName_name : PySem.W.findIn K (.ref A_NoName) "name" = some none
  z_NoOrder : ExN K mg "NoOrder" A_NoOrder
  x_NoOrder : XfC K A_NoOrder
  e_NoOrder : ExcC K A_NoOrder
  y_NoOrder : PySem.W.nsIn K mainGlobals "NoOrder" = some (some (.ref A_NoOrder))
  z_NoPaper : ExK P w K mg base "NoPaper" ["word", "row"] A_NoPaper
  x_NoPaper : XfC K A_NoPaper
  e_NoPaper : ExcC K A_NoPaper
  y_NoPaper : PySem.W.nsIn K mainGlobals "NoPaper" = some (some (.ref A_NoPaper))
  n_NoPaper_word : PySem.W.findIn K (.ref A_NoPaper) "word" = some none
  n_NoPaper_row : PySem.W.findIn K (.ref A_NoPaper) "row" = some none
  z_NoPlace : ExK P w K mg base "NoPlace" ["number"] A_NoPlace
  x_NoPlace : XfC K A_NoPlace
  e_NoPlace : ExcC K A_NoPlace
  y_NoPlace : PySem.W.nsIn K mainGlobals "NoPlace" = some (some (.ref A_NoPlace))
  n_NoPlace_number : PySem.W.findIn K (.ref A_NoPlace) "number" = some none
  z_NoPlan : ExK P w K mg base "NoPlan" ["word", "path"] A_NoPlan
  x_NoPlan : XfC K A_NoPlan
  e_NoPlan : ExcC K A_NoPlan
  y_NoPlan : PySem.W.nsIn K mainGlobals "NoPlan" = some (some (.ref A_NoPlan))
  n_NoPlan_word : PySem.W.findIn K (.ref A_NoPlan) "word" = some none
  n_NoPlan_path : PySem.W.findIn K (.ref A_NoPlan) "path" = some none
  z_NoSaying : ExK P w K mg base "NoSaying" ["number"] A_NoSaying
  x_NoSaying : XfC K A_NoSaying
  e_NoSaying : ExcC K A_NoSaying
  y_NoSaying : PySem.W.nsIn K mainGlobals "NoSaying" = some (some (.ref A_NoSaying))
  n_NoSaying_number : PySem.W.findIn K (.ref A_NoSaying) "number" = some none
  z_NoText : ExK P w K mg base "NoText" ["row"] A_NoText
  x_NoText : XfC K A_NoText
  e_NoText : ExcC K A_NoText
  y_NoText : PySem.W.nsIn K mainGlobals "NoText" = some (some (.ref A_NoText))
  n_NoText_row : PySem.W.findIn K (.ref A_NoText) "row" = some none
  z_TooMany : ExK P w K mg base "TooMany" ["word"] A_TooMany
  x_TooMany : XfC K A_TooMany
  e_TooMany : ExcC K A_TooMany
  y_TooMany : PySem.W.nsIn K mainGlobals "TooMany" = some (some (.ref A_TooMany))
  n_TooMany_word : PySem.W.findIn K (.ref A_TooMany) "word" = some none
  k_Clash_Clash : PySem.W.kitOne K (.ref A_Clash) (.ref A_Clash) = some true
  k_Clash_HalfError : PySem.W.kitOne K (.ref A_Clash) (.ref A_HalfError) = some true
  k_Clash_NoBound : PySem.W.kitOne K (.ref A_Clash) (.ref A_NoBound) = some false
  k_Clash_NoCover : PySem.W.kitOne K (.ref A_Clash) (.ref A_NoCover) = some false
  k_Clash_NoHalf : PySem.W.kitOne K (.ref A_Clash) (.ref A_NoHalf) = some false
  k_Clash_NoJoin : PySem.W.kitOne K (.ref A_Clash) (.ref A_NoJoin) = some false
  k_Clash_NoMore : PySem.W.kitOne K (.ref A_Clash) (.ref A_NoMore) = some false
  k_Clash_NoName : PySem.W.kitOne K (.ref A_Clash) (.ref A_NoName) = some false
  k_Clash_NoOrder : PySem.W.kitOne K (.ref A_Clash) (.ref A_NoOrder) = some false
  k_Clash_NoPaper : PySem.W.kitOne K (.ref A_Clash) (.ref A_NoPaper) = some false
  k_Clash_NoPlace : PySem.W.kitOne K (.ref A_Clash) (.ref A_NoPlace) = some false
  k_Clash_NoPlan : PySem.W.kitOne K (.ref A_Clash) (.ref A_NoPlan) = some false
  k_Clash_NoSaying : PySem.W.kitOne K (.ref A_Clash) (.ref A_NoSaying) = some false
  k_Clash_NoText : PySem.W.kitOne K (.ref A_Clash) (.ref A_NoText) = some false
  k_Clash_TooMany : PySem.W.kitOne K (.ref A_Clash) (.ref A_TooMany) = some false
  k_Clash_ValueError : PySem.W.kitOne K (.ref A_Clash) (.type "ValueError") = some true
  k_NoBound_Clash : PySem.W.kitOne K (.ref A_NoBound) (.ref A_Clash) = some false
  k_NoBound_HalfError : PySem.W.kitOne K (.ref A_NoBound) (.ref A_HalfError) = some true
  k_NoBound_NoBound : PySem.W.kitOne K (.ref A_NoBound) (.ref A_NoBound) = some true
  k_NoBound_NoCover : PySem.W.kitOne K (.ref A_NoBound) (.ref A_NoCover) = some false
  k_NoBound_NoHalf : PySem.W.kitOne K (.ref A_NoBound) (.ref A_NoHalf) = some false
  k_NoBound_NoJoin : PySem.W.kitOne K (.ref A_NoBound) (.ref A_NoJoin) = some false
  k_NoBound_NoMore : PySem.W.kitOne K (.ref A_NoBound) (.ref A_NoMore) = some false
  k_NoBound_NoName : PySem.W.kitOne K (.ref A_NoBound) (.ref A_NoName) = some false
  k_NoBound_NoOrder : PySem.W.kitOne K (.ref A_NoBound) (.ref A_NoOrder) = some false
  k_NoBound_NoPaper : PySem.W.kitOne K (.ref A_NoBound) (.ref A_NoPaper) = some false
  k_NoBound_NoPlace : PySem.W.kitOne K (.ref A_NoBound) (.ref A_NoPlace) = some false
  k_NoBound_NoPlan : PySem.W.kitOne K (.ref A_NoBound) (.ref A_NoPlan) = some false
  k_NoBound_NoSaying : PySem.W.kitOne K (.ref A_NoBound) (.ref A_NoSaying) = some false
  k_NoBound_NoText : PySem.W.kitOne K (.ref A_NoBound) (.ref A_NoText) = some false
  k_NoBound_TooMany : PySem.W.kitOne K (.ref A_NoBound) (.ref A_TooMany) = some false
  k_NoBound_ValueError : PySem.W.kitOne K (.ref A_NoBound) (.type "ValueError") = some true
  k_NoCover_Clash : PySem.W.kitOne K (.ref A_NoCover) (.ref A_Clash) = some false
  k_NoCover_HalfError : PySem.W.kitOne K (.ref A_NoCover) (.ref A_HalfError) = some true
  k_NoCover_NoBound : PySem.W.kitOne K (.ref A_NoCover) (.ref A_NoBound) = some false
  k_NoCover_NoCover : PySem.W.kitOne K (.ref A_NoCover) (.ref A_NoCover) = some true
  k_NoCover_NoHalf : PySem.W.kitOne K (.ref A_NoCover) (.ref A_NoHalf) = some false
  k_NoCover_NoJoin : PySem.W.kitOne K (.ref A_NoCover) (.ref A_NoJoin) = some false
  k_NoCover_NoMore : PySem.W.kitOne K (.ref A_NoCover) (.ref A_NoMore) = some false
  k_NoCover_NoName : PySem.W.kitOne K (.ref A_NoCover) (.ref A_NoName) = some false
  k_NoCover_NoOrder : PySem.W.kitOne K (.ref A_NoCover) (.ref A_NoOrder) = some false
  k_NoCover_NoPaper : PySem.W.kitOne K (.ref A_NoCover) (.ref A_NoPaper) = some false
  k_NoCover_NoPlace : PySem.W.kitOne K (.ref A_NoCover) (.ref A_NoPlace) = some false
  k_NoCover_NoPlan : PySem.W.kitOne K (.ref A_NoCover) (.ref A_NoPlan) = some false
  k_NoCover_NoSaying : PySem.W.kitOne K (.ref A_NoCover) (.ref A_NoSaying) = some false
  k_NoCover_NoText : PySem.W.kitOne K (.ref A_NoCover) (.ref A_NoText) = some false
  k_NoCover_TooMany : PySem.W.kitOne K (.ref A_NoCover) (.ref A_TooMany) = some false
  k_NoCover_ValueError : PySem.W.kitOne K (.ref A_NoCover) (.type "ValueError") = some true
  k_NoHalf_Clash : PySem.W.kitOne K (.ref A_NoHalf) (.ref A_Clash) = some false
  k_NoHalf_HalfError : PySem.W.kitOne K (.ref A_NoHalf) (.ref A_HalfError) = some true
  k_NoHalf_NoBound : PySem.W.kitOne K (.ref A_NoHalf) (.ref A_NoBound) = some false
  k_NoHalf_NoCover : PySem.W.kitOne K (.ref A_NoHalf) (.ref A_NoCover) = some false
  k_NoHalf_NoHalf : PySem.W.kitOne K (.ref A_NoHalf) (.ref A_NoHalf) = some true
  k_NoHalf_NoJoin : PySem.W.kitOne K (.ref A_NoHalf) (.ref A_NoJoin) = some false
  k_NoHalf_NoMore : PySem.W.kitOne K (.ref A_NoHalf) (.ref A_NoMore) = some false
  k_NoHalf_NoName : PySem.W.kitOne K (.ref A_NoHalf) (.ref A_NoName) = some false
  k_NoHalf_NoOrder : PySem.W.kitOne K (.ref A_NoHalf) (.ref A_NoOrder) = some false
  k_NoHalf_NoPaper : PySem.W.kitOne K (.ref A_NoHalf) (.ref A_NoPaper) = some false
  k_NoHalf_NoPlace : PySem.W.kitOne K (.ref A_NoHalf) (.ref A_NoPlace) = some false
  k_NoHalf_NoPlan : PySem.W.kitOne K (.ref A_NoHalf) (.ref A_NoPlan) = some false
  k_NoHalf_NoSaying : PySem.W.kitOne K (.ref A_NoHalf) (.ref A_NoSaying) = some false
  k_NoHalf_NoText : PySem.W.kitOne K (.ref A_NoHalf) (.ref A_NoText) = some false
  k_NoHalf_TooMany : PySem.W.kitOne K (.ref A_NoHalf) (.ref A_TooMany) = some false
  k_NoHalf_ValueError : PySem.W.kitOne K (.ref A_NoHalf) (.type "ValueError") = some true
  k_NoJoin_Clash : PySem.W.kitOne K (.ref A_NoJoin) (.ref A_Clash) = some false
  k_NoJoin_HalfError : PySem.W.kitOne K (.ref A_NoJoin) (.ref A_HalfError) = some true
  k_NoJoin_NoBound : PySem.W.kitOne K (.ref A_NoJoin) (.ref A_NoBound) = some false
  k_NoJoin_NoCover : PySem.W.kitOne K (.ref A_NoJoin) (.ref A_NoCover) = some false
  k_NoJoin_NoHalf : PySem.W.kitOne K (.ref A_NoJoin) (.ref A_NoHalf) = some false
  k_NoJoin_NoJoin : PySem.W.kitOne K (.ref A_NoJoin) (.ref A_NoJoin) = some true
  k_NoJoin_NoMore : PySem.W.kitOne K (.ref A_NoJoin) (.ref A_NoMore) = some false
  k_NoJoin_NoName : PySem.W.kitOne K (.ref A_NoJoin) (.ref A_NoName) = some false
  k_NoJoin_NoOrder : PySem.W.kitOne K (.ref A_NoJoin) (.ref A_NoOrder) = some false
  k_NoJoin_NoPaper : PySem.W.kitOne K (.ref A_NoJoin) (.ref A_NoPaper) = some false
  k_NoJoin_NoPlace : PySem.W.kitOne K (.ref A_NoJoin) (.ref A_NoPlace) = some false
  k_NoJoin_NoPlan : PySem.W.kitOne K (.ref A_NoJoin) (.ref A_NoPlan) = some false
  k_NoJoin_NoSaying : PySem.W.kitOne K (.ref A_NoJoin) (.ref A_NoSaying) = some false
  k_NoJoin_NoText : PySem.W.kitOne K (.ref A_NoJoin) (.ref A_NoText) = some false
  k_NoJoin_TooMany : PySem.W.kitOne K (.ref A_NoJoin) (.ref A_TooMany) = some false
  k_NoJoin_ValueError : PySem.W.kitOne K (.ref A_NoJoin) (.type "ValueError") = some true
  k_NoMore_Clash : PySem.W.kitOne K (.ref A_NoMore) (.ref A_Clash) = some false
  k_NoMore_HalfError : PySem.W.kitOne K (.ref A_NoMore) (.ref A_HalfError) = some true
  k_NoMore_NoBound : PySem.W.kitOne K (.ref A_NoMore) (.ref A_NoBound) = some false
  k_NoMore_NoCover : PySem.W.kitOne K (.ref A_NoMore) (.ref A_NoCover) = some false
  k_NoMore_NoHalf : PySem.W.kitOne K (.ref A_NoMore) (.ref A_NoHalf) = some false
  k_NoMore_NoJoin : PySem.W.kitOne K (.ref A_NoMore) (.ref A_NoJoin) = some false
  k_NoMore_NoMore : PySem.W.kitOne K (.ref A_NoMore) (.ref A_NoMore) = some true
  k_NoMore_NoName : PySem.W.kitOne K (.ref A_NoMore) (.ref A_NoName) = some false
  k_NoMore_NoOrder : PySem.W.kitOne K (.ref A_NoMore) (.ref A_NoOrder) = some false
  k_NoMore_NoPaper : PySem.W.kitOne K (.ref A_NoMore) (.ref A_NoPaper) = some false
  k_NoMore_NoPlace : PySem.W.kitOne K (.ref A_NoMore) (.ref A_NoPlace) = some false
  k_NoMore_NoPlan : PySem.W.kitOne K (.ref A_NoMore) (.ref A_NoPlan) = some false
  k_NoMore_NoSaying : PySem.W.kitOne K (.ref A_NoMore) (.ref A_NoSaying) = some false
  k_NoMore_NoText : PySem.W.kitOne K (.ref A_NoMore) (.ref A_NoText) = some false
  k_NoMore_TooMany : PySem.W.kitOne K (.ref A_NoMore) (.ref A_TooMany) = some false
  k_NoMore_ValueError : PySem.W.kitOne K (.ref A_NoMore) (.type "ValueError") = some true
  k_NoName_Clash : PySem.W.kitOne K (.ref A_NoName) (.ref A_Clash) = some false
  k_NoName_HalfError : PySem.W.kitOne K (.ref A_NoName) (.ref A_HalfError) = some true
  k_NoName_NoBound : PySem.W.kitOne K (.ref A_NoName) (.ref A_NoBound) = some false
  k_NoName_NoCover : PySem.W.kitOne K (.ref A_NoName) (.ref A_NoCover) = some false
  k_NoName_NoHalf : PySem.W.kitOne K (.ref A_NoName) (.ref A_NoHalf) = some false
  k_NoName_NoJoin : PySem.W.kitOne K (.ref A_NoName) (.ref A_NoJoin) = some false
  k_NoName_NoMore : PySem.W.kitOne K (.ref A_NoName) (.ref A_NoMore) = some false
  k_NoName_NoName : PySem.W.kitOne K (.ref A_NoName) (.ref A_NoName) = some true
  k_NoName_NoOrder : PySem.W.kitOne K (.ref A_NoName) (.ref A_NoOrder) = some false
  k_NoName_NoPaper : PySem.W.kitOne K (.ref A_NoName) (.ref A_NoPaper) = some false
  k_NoName_NoPlace : PySem.W.kitOne K (.ref A_NoName) (.ref A_NoPlace) = some false
  k_NoName_NoPlan : PySem.W.kitOne K (.ref A_NoName) (.ref A_NoPlan) = some false
  k_NoName_NoSaying : PySem.W.kitOne K (.ref A_NoName) (.ref A_NoSaying) = some false
  k_NoName_NoText : PySem.W.kitOne K (.ref A_NoName) (.ref A_NoText) = some false
  k_NoName_TooMany : PySem.W.kitOne K (.ref A_NoName) (.ref A_TooMany) = some false
  k_NoName_ValueError : PySem.W.kitOne K (.ref A_NoName) (.type "ValueError") = some true
  k_NoOrder_Clash : PySem.W.kitOne K (.ref A_NoOrder) (.ref A_Clash) = some false
  k_NoOrder_HalfError : PySem.W.kitOne K (.ref A_NoOrder) (.ref A_HalfError) = some true
  k_NoOrder_NoBound : PySem.W.kitOne K (.ref A_NoOrder) (.ref A_NoBound) = some false
  k_NoOrder_NoCover : PySem.W.kitOne K (.ref A_NoOrder) (.ref A_NoCover) = some false
  k_NoOrder_NoHalf : PySem.W.kitOne K (.ref A_NoOrder) (.ref A_NoHalf) = some false
  k_NoOrder_NoJoin : PySem.W.kitOne K (.ref A_NoOrder) (.ref A_NoJoin) = some false
  k_NoOrder_NoMore : PySem.W.kitOne K (.ref A_NoOrder) (.ref A_NoMore) = some false
  k_NoOrder_NoName : PySem.W.kitOne K (.ref A_NoOrder) (.ref A_NoName) = some false
  k_NoOrder_NoOrder : PySem.W.kitOne K (.ref A_NoOrder) (.ref A_NoOrder) = some true
  k_NoOrder_NoPaper : PySem.W.kitOne K (.ref A_NoOrder) (.ref A_NoPaper) = some false
  k_NoOrder_NoPlace : PySem.W.kitOne K (.ref A_NoOrder) (.ref A_NoPlace) = some false
  k_NoOrder_NoPlan : PySem.W.kitOne K (.ref A_NoOrder) (.ref A_NoPlan) = some false
  k_NoOrder_NoSaying : PySem.W.kitOne K (.ref A_NoOrder) (.ref A_NoSaying) = some false
  k_NoOrder_NoText : PySem.W.kitOne K (.ref A_NoOrder) (.ref A_NoText) = some false
  k_NoOrder_TooMany : PySem.W.kitOne K (.ref A_NoOrder) (.ref A_TooMany) = some false
  k_NoOrder_ValueError : PySem.W.kitOne K (.ref A_NoOrder) (.type "ValueError") = some true
  k_NoPaper_Clash : PySem.W.kitOne K (.ref A_NoPaper) (.ref A_Clash) = some false
  k_NoPaper_HalfError : PySem.W.kitOne K (.ref A_NoPaper) (.ref A_HalfError) = some true
  k_NoPaper_NoBound : PySem.W.kitOne K (.ref A_NoPaper) (.ref A_NoBound) = some false
  k_NoPaper_NoCover : PySem.W.kitOne K (.ref A_NoPaper) (.ref A_NoCover) = some false
  k_NoPaper_NoHalf : PySem.W.kitOne K (.ref A_NoPaper) (.ref A_NoHalf) = some false
  k_NoPaper_NoJoin : PySem.W.kitOne K (.ref A_NoPaper) (.ref A_NoJoin) = some false
  k_NoPaper_NoMore : PySem.W.kitOne K (.ref A_NoPaper) (.ref A_NoMore) = some false
  k_NoPaper_NoName : PySem.W.kitOne K (.ref A_NoPaper) (.ref A_NoName) = some false
  k_NoPaper_NoOrder : PySem.W.kitOne K (.ref A_NoPaper) (.ref A_NoOrder) = some false
  k_NoPaper_NoPaper : PySem.W.kitOne K (.ref A_NoPaper) (.ref A_NoPaper) = some true
  k_NoPaper_NoPlace : PySem.W.kitOne K (.ref A_NoPaper) (.ref A_NoPlace) = some false
  k_NoPaper_NoPlan : PySem.W.kitOne K (.ref A_NoPaper) (.ref A_NoPlan) = some false
  k_NoPaper_NoSaying : PySem.W.kitOne K (.ref A_NoPaper) (.ref A_NoSaying) = some false
  k_NoPaper_NoText : PySem.W.kitOne K (.ref A_NoPaper) (.ref A_NoText) = some false
  k_NoPaper_TooMany : PySem.W.kitOne K (.ref A_NoPaper) (.ref A_TooMany) = some false
  k_NoPaper_ValueError : PySem.W.kitOne K (.ref A_NoPaper) (.type "ValueError") = some true
  k_NoPlace_Clash : PySem.W.kitOne K (.ref A_NoPlace) (.ref A_Clash) = some false
  k_NoPlace_HalfError : PySem.W.kitOne K (.ref A_NoPlace) (.ref A_HalfError) = some true
  k_NoPlace_NoBound : PySem.W.kitOne K (.ref A_NoPlace) (.ref A_NoBound) = some false
  k_NoPlace_NoCover : PySem.W.kitOne K (.ref A_NoPlace) (.ref A_NoCover) = some false
  k_NoPlace_NoHalf : PySem.W.kitOne K (.ref A_NoPlace) (.ref A_NoHalf) = some false
  k_NoPlace_NoJoin : PySem.W.kitOne K (.ref A_NoPlace) (.ref A_NoJoin) = some false
  k_NoPlace_NoMore : PySem.W.kitOne K (.ref A_NoPlace) (.ref A_NoMore) = some false
  k_NoPlace_NoName : PySem.W.kitOne K (.ref A_NoPlace) (.ref A_NoName) = some false
  k_NoPlace_NoOrder : PySem.W.kitOne K (.ref A_NoPlace) (.ref A_NoOrder) = some false
  k_NoPlace_NoPaper : PySem.W.kitOne K (.ref A_NoPlace) (.ref A_NoPaper) = some false
  k_NoPlace_NoPlace : PySem.W.kitOne K (.ref A_NoPlace) (.ref A_NoPlace) = some true
  k_NoPlace_NoPlan : PySem.W.kitOne K (.ref A_NoPlace) (.ref A_NoPlan) = some false
  k_NoPlace_NoSaying : PySem.W.kitOne K (.ref A_NoPlace) (.ref A_NoSaying) = some false
  k_NoPlace_NoText : PySem.W.kitOne K (.ref A_NoPlace) (.ref A_NoText) = some false
  k_NoPlace_TooMany : PySem.W.kitOne K (.ref A_NoPlace) (.ref A_TooMany) = some false
  k_NoPlace_ValueError : PySem.W.kitOne K (.ref A_NoPlace) (.type "ValueError") = some true
  k_NoPlan_Clash : PySem.W.kitOne K (.ref A_NoPlan) (.ref A_Clash) = some false
  k_NoPlan_HalfError : PySem.W.kitOne K (.ref A_NoPlan) (.ref A_HalfError) = some true
  k_NoPlan_NoBound : PySem.W.kitOne K (.ref A_NoPlan) (.ref A_NoBound) = some false
  k_NoPlan_NoCover : PySem.W.kitOne K (.ref A_NoPlan) (.ref A_NoCover) = some false
  k_NoPlan_NoHalf : PySem.W.kitOne K (.ref A_NoPlan) (.ref A_NoHalf) = some false
  k_NoPlan_NoJoin : PySem.W.kitOne K (.ref A_NoPlan) (.ref A_NoJoin) = some false
  k_NoPlan_NoMore : PySem.W.kitOne K (.ref A_NoPlan) (.ref A_NoMore) = some false
  k_NoPlan_NoName : PySem.W.kitOne K (.ref A_NoPlan) (.ref A_NoName) = some false
  k_NoPlan_NoOrder : PySem.W.kitOne K (.ref A_NoPlan) (.ref A_NoOrder) = some false
  k_NoPlan_NoPaper : PySem.W.kitOne K (.ref A_NoPlan) (.ref A_NoPaper) = some false
  k_NoPlan_NoPlace : PySem.W.kitOne K (.ref A_NoPlan) (.ref A_NoPlace) = some false
  k_NoPlan_NoPlan : PySem.W.kitOne K (.ref A_NoPlan) (.ref A_NoPlan) = some true
  k_NoPlan_NoSaying : PySem.W.kitOne K (.ref A_NoPlan) (.ref A_NoSaying) = some false
  k_NoPlan_NoText : PySem.W.kitOne K (.ref A_NoPlan) (.ref A_NoText) = some false
  k_NoPlan_TooMany : PySem.W.kitOne K (.ref A_NoPlan) (.ref A_TooMany) = some false
  k_NoPlan_ValueError : PySem.W.kitOne K (.ref A_NoPlan) (.type "ValueError") = some true
  k_NoSaying_Clash : PySem.W.kitOne K (.ref A_NoSaying) (.ref A_Clash) = some false
  k_NoSaying_HalfError : PySem.W.kitOne K (.ref A_NoSaying) (.ref A_HalfError) = some true
  k_NoSaying_NoBound : PySem.W.kitOne K (.ref A_NoSaying) (.ref A_NoBound) = some false
  k_NoSaying_NoCover : PySem.W.kitOne K (.ref A_NoSaying) (.ref A_NoCover) = some false
  k_NoSaying_NoHalf : PySem.W.kitOne K (.ref A_NoSaying) (.ref A_NoHalf) = some false
  k_NoSaying_NoJoin : PySem.W.kitOne K (.ref A_NoSaying) (.ref A_NoJoin) = some false
  k_NoSaying_NoMore : PySem.W.kitOne K (.ref A_NoSaying) (.ref A_NoMore) = some false
  k_NoSaying_NoName : PySem.W.kitOne K (.ref A_NoSaying) (.ref A_NoName) = some false
  k_NoSaying_NoOrder : PySem.W.kitOne K (.ref A_NoSaying) (.ref A_NoOrder) = some false
  k_NoSaying_NoPaper : PySem.W.kitOne K (.ref A_NoSaying) (.ref A_NoPaper) = some false
  k_NoSaying_NoPlace : PySem.W.kitOne K (.ref A_NoSaying) (.ref A_NoPlace) = some false
  k_NoSaying_NoPlan : PySem.W.kitOne K (.ref A_NoSaying) (.ref A_NoPlan) = some false
  k_NoSaying_NoSaying : PySem.W.kitOne K (.ref A_NoSaying) (.ref A_NoSaying) = some true
  k_NoSaying_NoText : PySem.W.kitOne K (.ref A_NoSaying) (.ref A_NoText) = some false
  k_NoSaying_TooMany : PySem.W.kitOne K (.ref A_NoSaying) (.ref A_TooMany) = some false
  k_NoSaying_ValueError : PySem.W.kitOne K (.ref A_NoSaying) (.type "ValueError") = some true
  k_NoText_Clash : PySem.W.kitOne K (.ref A_NoText) (.ref A_Clash) = some false
  k_NoText_HalfError : PySem.W.kitOne K (.ref A_NoText) (.ref A_HalfError) = some true
  k_NoText_NoBound : PySem.W.kitOne K (.ref A_NoText) (.ref A_NoBound) = some false
  k_NoText_NoCover : PySem.W.kitOne K (.ref A_NoText) (.ref A_NoCover) = some false
  k_NoText_NoHalf : PySem.W.kitOne K (.ref A_NoText) (.ref A_NoHalf) = some false
  k_NoText_NoJoin : PySem.W.kitOne K (.ref A_NoText) (.ref A_NoJoin) = some false
  k_NoText_NoMore : PySem.W.kitOne K (.ref A_NoText) (.ref A_NoMore) = some false
  k_NoText_NoName : PySem.W.kitOne K (.ref A_NoText) (.ref A_NoName) = some false
  k_NoText_NoOrder : PySem.W.kitOne K (.ref A_NoText) (.ref A_NoOrder) = some false
  k_NoText_NoPaper : PySem.W.kitOne K (.ref A_NoText) (.ref A_NoPaper) = some false
  k_NoText_NoPlace : PySem.W.kitOne K (.ref A_NoText) (.ref A_NoPlace) = some false
  k_NoText_NoPlan : PySem.W.kitOne K (.ref A_NoText) (.ref A_NoPlan) = some false
  k_NoText_NoSaying : PySem.W.kitOne K (.ref A_NoText) (.ref A_NoSaying) = some false
  k_NoText_NoText : PySem.W.kitOne K (.ref A_NoText) (.ref A_NoText) = some true
  k_NoText_TooMany : PySem.W.kitOne K (.ref A_NoText) (.ref A_TooMany) = some false
  k_NoText_ValueError : PySem.W.kitOne K (.ref A_NoText) (.type "ValueError") = some true
  k_TooMany_Clash : PySem.W.kitOne K (.ref A_TooMany) (.ref A_Clash) = some false
  k_TooMany_HalfError : PySem.W.kitOne K (.ref A_TooMany) (.ref A_HalfError) = some true
  k_TooMany_NoBound : PySem.W.kitOne K (.ref A_TooMany) (.ref A_NoBound) = some false
  k_TooMany_NoCover : PySem.W.kitOne K (.ref A_TooMany) (.ref A_NoCover) = some false
  k_TooMany_NoHalf : PySem.W.kitOne K (.ref A_TooMany) (.ref A_NoHalf) = some false
  k_TooMany_NoJoin : PySem.W.kitOne K (.ref A_TooMany) (.ref A_NoJoin) = some false
  k_TooMany_NoMore : PySem.W.kitOne K (.ref A_TooMany) (.ref A_NoMore) = some false
  k_TooMany_NoName : PySem.W.kitOne K (.ref A_TooMany) (.ref A_NoName) = some false
  k_TooMany_NoOrder : PySem.W.kitOne K (.ref A_TooMany) (.ref A_NoOrder) = some false
  k_TooMany_NoPaper : PySem.W.kitOne K (.ref A_TooMany) (.ref A_NoPaper) = some false
  k_TooMany_NoPlace : PySem.W.kitOne K (.ref A_TooMany) (.ref A_NoPlace) = some false
  k_TooMany_NoPlan : PySem.W.kitOne K (.ref A_TooMany) (.ref A_NoPlan) = some false
  k_TooMany_NoSaying : PySem.W.kitOne K (.ref A_TooMany) (.ref A_NoSaying) = some false
  k_TooMany_NoText : PySem.W.kitOne K (.ref A_TooMany) (.ref A_NoText) = some false
  k_TooMany_TooMany : PySem.W.kitOne K (.ref A_TooMany) (.ref A_TooMany) = some true
  k_TooMany_ValueError : PySem.W.kitOne K (.ref A_TooMany) (.type "ValueError") = some true
abbrev s_init_Clash : Stmt := clsStm (topS 10) 0
theorem sc_init_Clash : FnScope ["self", "way"] ["self", "way"] (defScope s_init_Clash) := ⟨rfl, rfl, rfl, by decide +kernel, rfl, by decide +kernel, by decide +kernel⟩
theorem in_Clash {B C fI : Addr} {fd : FuncData} (G : L2.Fun K "__init__" "Clash.__init__" s_init_Clash fI fd) (gB : mg "HalfError" = some (.ref B)) (rd : ClX.CRead K B (.type "type")) (vV : PySem.W.findCls K (.ref B) (.type "type") "__init__" = some (.val (.builtin "ValueError.__init__"))) (T : OexC K C) (no_way : PySem.W.findIn K (.ref C) "way" = some none) : FnOk P w K mg base CX0 1 fI fd ["self", "way"] (spI K C ["way"]) := by
  refine G.ok (k := 0) sc_init_Clash (fun vs H Q E h => ?_) fun cdv A outer s H vs Q E hr hsp => ?_
  · obtain ⟨a, ws, rfl, hl, _⟩ := h
    rw [List.length_cons, hl]; rfl
  · exact ⟨_, pss_cons (ps_expr (pe_cinit rfl gB rd vV (pa_cons (pv 0) (pa_cons (pv 1) pa_nil)))) (pss_one (ps_ost (pv 0) (pv 1))), init_end1 T no_way hsp rfl⟩
abbrev s_init_NoBound : Stmt := clsStm (topS 13) 0
theorem sc_init_NoBound : FnScope ["self", "word", "row"] ["self", "word", "row"] (defScope s_init_NoBound) := ⟨rfl, rfl, rfl, by decide +kernel, rfl, by decide +kernel, by decide +kernel⟩
theorem in_NoBound {B C fI : Addr} {fd : FuncData} (G : L2.Fun K "__init__" "NoBound.__init__" s_init_NoBound fI fd) (gB : mg "HalfError" = some (.ref B)) (rd : ClX.CRead K B (.type "type")) (vV : PySem.W.findCls K (.ref B) (.type "type") "__init__" = some (.val (.builtin "ValueError.__init__"))) (T : OexC K C) (no_word : PySem.W.findIn K (.ref C) "word" = some none) (no_row : PySem.W.findIn K (.ref C) "row" = some none) : FnOk P w K mg base CX0 1 fI fd ["self", "word", "row"] (spI K C ["word", "row"]) := by
  refine G.ok (k := 0) sc_init_NoBound (fun vs H Q E h => ?_) fun cdv A outer s H vs Q E hr hsp => ?_
  · obtain ⟨a, ws, rfl, hl, _⟩ := h
    rw [List.length_cons, hl]; rfl
  · exact ⟨_, pss_cons (ps_expr (pe_cinit rfl gB rd vV (pa_cons (pv 0) (pa_cons (pv 1) (pa_cons (pv 2) pa_nil))))) (pss_cons (ps_ost (pv 0) (pv 1)) (pss_one (ps_ost (pv 0) (pv 2)))), init_end2 T no_word no_row hsp rfl⟩
abbrev s_init_NoHalf : Stmt := clsStm (topS 2) 0
theorem sc_init_NoHalf : FnScope ["self", "word", "number"] ["self", "word", "number"] (defScope s_init_NoHalf) := ⟨rfl, rfl, rfl, by decide +kernel, rfl, by decide +kernel, by decide +kernel⟩
theorem in_NoHalf {B C fI : Addr} {fd : FuncData} (G : L2.Fun K "__init__" "NoHalf.__init__" s_init_NoHalf fI fd) (gB : mg "HalfError" = some (.ref B)) (rd : ClX.CRead K B (.type "type")) (vV : PySem.W.findCls K (.ref B) (.type "type") "__init__" = some (.val (.builtin "ValueError.__init__"))) (T : OexC K C) (no_word : PySem.W.findIn K (.ref C) "word" = some none) (no_number : PySem.W.findIn K (.ref C) "number" = some none) : FnOk P w K mg base CX0 1 fI fd ["self", "word", "number"] (spI K C ["word", "number"]) := by
  refine G.ok (k := 0) sc_init_NoHalf (fun vs H Q E h => ?_) fun cdv A outer s H vs Q E hr hsp => ?_
  · obtain ⟨a, ws, rfl, hl, _⟩ := h
    rw [List.length_cons, hl]; rfl
  · exact ⟨_, pss_cons (ps_expr (pe_cinit rfl gB rd vV (pa_cons (pv 0) (pa_cons (pv 1) (pa_cons (pv 2) pa_nil))))) (pss_cons (ps_ost (pv 0) (pv 1)) (pss_one (ps_ost (pv 0) (pv 2)))), init_end2 T no_word no_number hsp rfl⟩
abbrev s_init_NoJoin : Stmt := clsStm (topS 9) 0
theorem sc_init_NoJoin : FnScope ["self", "word"] ["self", "word"] (defScope s_init_NoJoin) := ⟨rfl, rfl, rfl, by decide +kernel, rfl, by decide +kernel, by decide +kernel⟩
theorem in_NoJoin {B C fI : Addr} {fd : FuncData} (G : L2.Fun K "__init__" "NoJoin.__init__" s_init_NoJoin fI fd) (gB : mg "HalfError" = some (.ref B)) (rd : ClX.CRead K B (.type "type")) (vV : PySem.W.findCls K (.ref B) (.type "type") "__init__" = some (.val (.builtin "ValueError.__init__"))) (T : OexC K C) (no_word : PySem.W.findIn K (.ref C) "word" = some none) : FnOk P w K mg base CX0 1 fI fd ["self", "word"] (spI K C ["word"]) := by
  refine G.ok (k := 0) sc_init_NoJoin (fun vs H Q E h => ?_) fun cdv A outer s H vs Q E hr hsp => ?_
  · obtain ⟨a, ws, rfl, hl, _⟩ := h
    rw [List.length_cons, hl]; rfl
  · exact ⟨_, pss_cons (ps_expr (pe_cinit rfl gB rd vV (pa_cons (pv 0) (pa_cons (pv 1) pa_nil)))) (pss_one (ps_ost (pv 0) (pv 1))), init_end1 T no_word hsp rfl⟩
abbrev s_init_NoName : Stmt := clsStm (topS 4) 0
theorem sc_init_NoName : FnScope ["self", "name"] ["self", "name"] (defScope s_init_NoName) := ⟨rfl, rfl, rfl, by decide +kernel, rfl, by decide +kernel, by decide +kernel⟩
theorem in_NoName {B C fI : Addr} {fd : FuncData} (G : L2.Fun K "__init__" "NoName.__init__" s_init_NoName fI fd) (gB : mg "HalfError" = some (.ref B)) (rd : ClX.CRead K B (.type "type")) (vV : PySem.W.findCls K (.ref B) (.type "type") "__init__" = some (.val (.builtin "ValueError.__init__"))) (T : OexC K C) (no_name : PySem.W.findIn K (.ref C) "name" = some none) : FnOk P w K mg base CX0 1 fI fd ["self", "name"] (spI K C ["name"]) := by
  refine G.ok (k := 0) sc_init_NoName (fun vs H Q E h => ?_) fun cdv A outer s H vs Q E hr hsp => ?_
  · obtain ⟨a, ws, rfl, hl, _⟩ := h
    rw [List.length_cons, hl]; rfl
  · exact ⟨_, pss_cons (ps_expr (pe_cinit rfl gB rd vV (pa_cons (pv 0) (pa_cons (pv 1) pa_nil)))) (pss_one (ps_ost (pv 0) (pv 1))), init_end1 T no_name hsp rfl⟩
abbrev s_init_NoPaper : Stmt := clsStm (topS 11) 0
theorem sc_init_NoPaper : FnScope ["self", "word", "row"] ["self", "word", "row"] (defScope s_init_NoPaper) := ⟨rfl, rfl, rfl, by decide +kernel, rfl, by decide +kernel, by decide +kernel⟩
theorem in_NoPaper {B C fI : Addr} {fd : FuncData} (G : L2.Fun K "__init__" "NoPaper.__init__" s_init_NoPaper fI fd) (gB : mg "HalfError" = some (.ref B)) (rd : ClX.CRead K B (.type "type")) (vV : PySem.W.findCls K (.ref B) (.type "type") "__init__" = some (.val (.builtin "ValueError.__init__"))) (T : OexC K C) (no_word : PySem.W.findIn K (.ref C) "word" = some none) (no_row : PySem.W.findIn K (.ref C) "row" = some none) : FnOk P w K mg base CX0 1 fI fd ["self", "word", "row"] (spI K C ["word", "row"]) := by
  refine G.ok (k := 0) sc_init_NoPaper (fun vs H Q E h => ?_) fun cdv A outer s H vs Q E hr hsp => ?_
  · obtain ⟨a, ws, rfl, hl, _⟩ := h
    rw [List.length_cons, hl]; rfl
  · exact ⟨_, pss_cons (ps_expr (pe_cinit rfl gB rd vV (pa_cons (pv 0) (pa_cons (pv 1) (pa_cons (pv 2) pa_nil))))) (pss_cons (ps_ost (pv 0) (pv 1)) (pss_one (ps_ost (pv 0) (pv 2)))), init_end2 T no_word no_row hsp rfl⟩
abbrev s_init_NoPlace : Stmt := clsStm (topS 7) 0
theorem sc_init_NoPlace : FnScope ["self", "number"] ["self", "number"] (defScope s_init_NoPlace) := ⟨rfl, rfl, rfl, by decide +kernel, rfl, by decide +kernel, by decide +kernel⟩
theorem in_NoPlace {B C fI : Addr} {fd : FuncData} (G : L2.Fun K "__init__" "NoPlace.__init__" s_init_NoPlace fI fd) (gB : mg "HalfError" = some (.ref B)) (rd : ClX.CRead K B (.type "type")) (vV : PySem.W.findCls K (.ref B) (.type "type") "__init__" = some (.val (.builtin "ValueError.__init__"))) (T : OexC K C) (no_number : PySem.W.findIn K (.ref C) "number" = some none) : FnOk P w K mg base CX0 1 fI fd ["self", "number"] (spI K C ["number"]) := by
  refine G.ok (k := 0) sc_init_NoPlace (fun vs H Q E h => ?_) fun cdv A outer s H vs Q E hr hsp => ?_
  · obtain ⟨a, ws, rfl, hl, _⟩ := h
    rw [List.length_cons, hl]; rfl
  · exact ⟨_, pss_cons (ps_expr (pe_cinit rfl gB rd vV (pa_cons (pv 0) (pa_cons (pv 1) pa_nil)))) (pss_one (ps_ost (pv 0) (pv 1))), init_end1 T no_number hsp rfl⟩
abbrev s_init_NoPlan : Stmt := clsStm (topS 12) 0
theorem sc_init_NoPlan : FnScope ["self", "word", "path"] ["self", "word", "path"] (defScope s_init_NoPlan) := ⟨rfl, rfl, rfl, by decide +kernel, rfl, by decide +kernel, by decide +kernel⟩
theorem in_NoPlan {B C fI : Addr} {fd : FuncData} (G : L2.Fun K "__init__" "NoPlan.__init__" s_init_NoPlan fI fd) (gB : mg "HalfError" = some (.ref B)) (rd : ClX.CRead K B (.type "type")) (vV : PySem.W.findCls K (.ref B) (.type "type") "__init__" = some (.val (.builtin "ValueError.__init__"))) (T : OexC K C) (no_word : PySem.W.findIn K (.ref C) "word" = some none) (no_path : PySem.W.findIn K (.ref C) "path" = some none) : FnOk P w K mg base CX0 1 fI fd ["self", "word", "path"] (spI K C ["word", "path"]) := by
  refine G.ok (k := 0) sc_init_NoPlan (fun vs H Q E h => ?_) fun cdv A outer s H vs Q E hr hsp => ?_
  · obtain ⟨a, ws, rfl, hl, _⟩ := h
    rw [List.length_cons, hl]; rfl
  · exact ⟨_, pss_cons (ps_expr (pe_cinit rfl gB rd vV (pa_cons (pv 0) (pa_cons (pv 1) (pa_cons (pv 2) pa_nil))))) (pss_cons (ps_ost (pv 0) (pv 1)) (pss_one (ps_ost (pv 0) (pv 2)))), init_end2 T no_word no_path hsp rfl⟩
abbrev s_init_NoSaying : Stmt := clsStm (topS 14) 0
theorem sc_init_NoSaying : FnScope ["self", "number"] ["self", "number"] (defScope s_init_NoSaying) := ⟨rfl, rfl, rfl, by decide +kernel, rfl, by decide +kernel, by decide +kernel⟩
theorem in_NoSaying {B C fI : Addr} {fd : FuncData} (G : L2.Fun K "__init__" "NoSaying.__init__" s_init_NoSaying fI fd) (gB : mg "HalfError" = some (.ref B)) (rd : ClX.CRead K B (.type "type")) (vV : PySem.W.findCls K (.ref B) (.type "type") "__init__" = some (.val (.builtin "ValueError.__init__"))) (T : OexC K C) (no_number : PySem.W.findIn K (.ref C) "number" = some none) : FnOk P w K mg base CX0 1 fI fd ["self", "number"] (spI K C ["number"]) := by
  refine G.ok (k := 0) sc_init_NoSaying (fun vs H Q E h => ?_) fun cdv A outer s H vs Q E hr hsp => ?_
  · obtain ⟨a, ws, rfl, hl, _⟩ := h
    rw [List.length_cons, hl]; rfl
  · exact ⟨_, pss_cons (ps_expr (pe_cinit rfl gB rd vV (pa_cons (pv 0) (pa_cons (pv 1) pa_nil)))) (pss_one (ps_ost (pv 0) (pv 1))), init_end1 T no_number hsp rfl⟩
abbrev s_init_NoText : Stmt := clsStm (topS 3) 0
theorem sc_init_NoText : FnScope ["self", "row"] ["self", "row"] (defScope s_init_NoText) := ⟨rfl, rfl, rfl, by decide +kernel, rfl, by decide +kernel, by decide +kernel⟩
theorem in_NoText {B C fI : Addr} {fd : FuncData} (G : L2.Fun K "__init__" "NoText.__init__" s_init_NoText fI fd) (gB : mg "HalfError" = some (.ref B)) (rd : ClX.CRead K B (.type "type")) (vV : PySem.W.findCls K (.ref B) (.type "type") "__init__" = some (.val (.builtin "ValueError.__init__"))) (T : OexC K C) (no_row : PySem.W.findIn K (.ref C) "row" = some none) : FnOk P w K mg base CX0 1 fI fd ["self", "row"] (spI K C ["row"]) := by
  refine G.ok (k := 0) sc_init_NoText (fun vs H Q E h => ?_) fun cdv A outer s H vs Q E hr hsp => ?_
  · obtain ⟨a, ws, rfl, hl, _⟩ := h
    rw [List.length_cons, hl]; rfl
  · exact ⟨_, pss_cons (ps_expr (pe_cinit rfl gB rd vV (pa_cons (pv 0) (pa_cons (pv 1) pa_nil)))) (pss_one (ps_ost (pv 0) (pv 1))), init_end1 T no_row hsp rfl⟩
abbrev s_init_TooMany : Stmt := clsStm (topS 5) 0
theorem sc_init_TooMany : FnScope ["self", "word"] ["self", "word"] (defScope s_init_TooMany) := ⟨rfl, rfl, rfl, by decide +kernel, rfl, by decide +kernel, by decide +kernel⟩
theorem in_TooMany {B C fI : Addr} {fd : FuncData} (G : L2.Fun K "__init__" "TooMany.__init__" s_init_TooMany fI fd) (gB : mg "HalfError" = some (.ref B)) (rd : ClX.CRead K B (.type "type")) (vV : PySem.W.findCls K (.ref B) (.type "type") "__init__" = some (.val (.builtin "ValueError.__init__"))) (T : OexC K C) (no_word : PySem.W.findIn K (.ref C) "word" = some none) : FnOk P w K mg base CX0 1 fI fd ["self", "word"] (spI K C ["word"]) := by
  refine G.ok (k := 0) sc_init_TooMany (fun vs H Q E h => ?_) fun cdv A outer s H vs Q E hr hsp => ?_
  · obtain ⟨a, ws, rfl, hl, _⟩ := h
    rw [List.length_cons, hl]; rfl
  · exact ⟨_, pss_cons (ps_expr (pe_cinit rfl gB rd vV (pa_cons (pv 0) (pa_cons (pv 1) pa_nil)))) (pss_one (ps_ost (pv 0) (pv 1))), init_end1 T no_word hsp rfl⟩
/-! _law_feed -/
abbrev s__law_feed : Stmt := topS 17
theorem sc__law_feed : FnScope ["_law_script"] ["_law_script"] (defScope s__law_feed) := ⟨rfl, rfl, rfl, by decide +kernel, rfl, by decide +kernel, by decide +kernel⟩
def m__law_feed : MS :=
  (mRet (mDisp (mPCons (mC (.str "cells")) (mOp2 addD (mV (mOpN (one listD) (mOCons (mV (mSl cutD (mV (mVar 0)) mNoPart (mPart (mC (.int 63))))) mONil))) (mV (mOp2 mulD (mV (mLst (mCons (mC (.int 0)) mNil))) (mV (mOpN (one intD) (mOCons (mV (mOp2 eqD (mV (mVar 0)) (mV (mLst mNil)))) mONil)))))) (mPCons (mC (.str "at")) (mC (.int 0)) (mPCons (mC (.str "left")) (mC (.int 0)) (mPCons (mC (.str "turn")) (mC (.int 0)) mPNil))))))
def g__law_feed : List D → R D := fun ds => (runF 1 0 m__law_feed ds).noEx
theorem fn__law_feed {f : Addr} {fd : FuncData} (G : L2.Fun K "_law_feed" "_law_feed" s__law_feed f fd) (gs : Gs mg) : FnG P w K mg base CX0 1 f fd ["_law_script"] (spV K mg 1 (leaves 1) 0 (.dic .leaf) g__law_feed) := by
  refine Fun.okG (k := 0) (n := 1) (psh := (leaves 1)) (lsh := []) (fx := 0) (rsh := (.dic .leaf)) (m := m__law_feed) G sc__law_feed rfl rfl rfl (by decide) (.inr (nnx_ret _)) fun X h1 h2 h3 h4 h5 h6 h7 h8 h9 henv hr hgd => ?_
  obtain ⟨xP, xw, xK, xmg, xb, xA, xN, xs, xH, xe, xo, xst, xex, xfn, xc, xpn, xx⟩ := X
  obtain ⟨xL, xf, xcd, henv⟩ := henv
  dsimp only at h1 h2 h3 h4 h5 h6 h7 h8 h9 henv hr hgd
  subst h1 h2 h3 h4 h5 h6 h7 h8 h9 henv
  exact ⟨_, (svs_one (sv_ret (ev_disp (eps_cons ev_str (ev_op (k_add xK rfl) (s_add (K := xK)) (eo_of (ev_frz (ev_callT (k_listOf xK rfl) (s_listOf (K := xK)) (eos_cons (eo_of (ev_slice (k_sl xK rfl) (s_sl (K := xK)) (eo_of (ev_var 0)) ept_none (ept_some ev_int))) eos_nil) gs.b_list bt_list))) (eo_of (ev_op (k_mul xK rfl) (s_mul (K := xK)) (eo_of (ev_frz (ev_lst (ea_cons ev_int ea_nil)))) (eo_of (ev_callT call_int1 s_int (eos_cons (eo_of (ev_cmp (k_eq xK rfl (hu65 hr)) (s_eq (K := xK)) (eo_of (ev_var 0)) (eo_of (ev_frz (ev_lst ea_nil))) (by first | exact nomark _ | rfl))) eos_nil) gs.b_int bt_int))))) (eps_cons ev_str ev_int (eps_cons ev_str ev_int (eps_cons ev_str ev_int eps_nil)))))))⟩

/-! _law_draw -/
abbrev s__law_draw : Stmt := topS 18
theorem sc__law_draw : FnScope ["_law_feed_here", "_law_many", "_law_cell", "_law_mixed", "_law_found"] ["_law_feed_here", "_law_many"] (defScope s__law_draw) := ⟨rfl, rfl, rfl, by decide +kernel, rfl, by decide +kernel, by decide +kernel⟩
def m__law_draw : MS :=
  (mSeq (mPut 0 (mC (.str "turn")) (mOp2 addD (mV (mOp2 ixD (mS 0) (mV (mC (.str "turn"))))) (mV (mC (.int 1)))))
  (mSeq (mIfS (mTest (mOp2 eqD (mV (mOp2 ixD (mS 0) (mV (mC (.str "left"))))) (mV (mC (.int 0))))) (mSeq (mSet 2 (mOp2 ixD (mV (mOp2 ixD (mS 0) (mV (mC (.str "cells"))))) (mV (mOp2 modD (mV (mOp2 ixD (mS 0) (mV (mC (.str "at"))))) (mV (mOpN (one lenD) (mOCons (mV (mOp2 ixD (mS 0) (mV (mC (.str "cells"))))) mONil)))))))
  (mSeq (mPut 0 (mC (.str "at")) (mOp2 addD (mV (mOp2 ixD (mS 0) (mV (mC (.str "at"))))) (mV (mC (.int 1)))))
  (mSeq (mIfS (mTest (mOp2 ltD (mV (mVar 2)) (mV (mOp2 powD (mV (mC (.int 10))) (mV (mC (.int 18))))))) (mSeq (mSet 3 (mOp2 modD (mV (mOp2 mulD (mV (mOp2 addD (mV (mOp2 modD (mV (mVar 2)) (mV (mC (.int 2147483629))))) (mV (mOp2 mulD (mV (mC (.int 1013))) (mV (mOp2 ixD (mS 0) (mV (mC (.str "turn"))))))))) (mV (mC (.int 48271))))) (mV (mC (.int 2147483647)))))
  (mSeq (mSet 3 (mOp2 modD (mV (mOp2 mulD (mV (mOp2 addD (mV (mOp2 fdivD (mV (mVar 3)) (mV (mC (.int 13))))) (mV (mOp2 mulD (mV (mC (.int 37))) (mV (mOp2 ixD (mS 0) (mV (mC (.str "turn"))))))))) (mV (mC (.int 69621))))) (mV (mC (.int 2147483587)))))
  (mRet (mOp2 modD (mV (mOp2 fdivD (mV (mVar 3)) (mV (mC (.int 7))))) (mV (mVar 1)))))) mNx)
  (mPut 0 (mC (.str "left")) (mVar 2))))) mNx)
  (mSeq (mSet 4 (mOp2 modD (mV (mOp2 ixD (mS 0) (mV (mC (.str "left"))))) (mV (mVar 1))))
  (mSeq (mPut 0 (mC (.str "left")) (mOp2 fdivD (mV (mOp2 ixD (mS 0) (mV (mC (.str "left"))))) (mV (mVar 1))))
  (mRet (mVar 4))))))
def g__law_draw : List D → R D := fun ds => (runF 5 1 m__law_draw ds).noEx
theorem fn__law_draw {f : Addr} {fd : FuncData} (G : L2.Fun K "_law_draw" "_law_draw" s__law_draw f fd) (gs : Gs mg) : FnG P w K mg base CX0 1 f fd ["_law_feed_here", "_law_many"] (spV K mg 2 ((.dic .leaf) :: leaves 1) 1 .leaf g__law_draw) := by
  refine Fun.okG (k := 0) (n := 2) (psh := ((.dic .leaf) :: leaves 1)) (lsh := [.leaf, .leaf, .leaf]) (fx := 1) (rsh := .leaf) (m := m__law_draw) G sc__law_draw rfl rfl rfl (by decide) (.inl rfl) fun X h1 h2 h3 h4 h5 h6 h7 h8 h9 henv hr hgd => ?_
  obtain ⟨xP, xw, xK, xmg, xb, xA, xN, xs, xH, xe, xo, xst, xex, xfn, xc, xpn, xx⟩ := X
  obtain ⟨xL, xf, xcd, henv⟩ := henv
  dsimp only at h1 h2 h3 h4 h5 h6 h7 h8 h9 henv hr hgd
  subst h1 h2 h3 h4 h5 h6 h7 h8 h9 henv
  exact ⟨_, (svs_cons (sv_dput 0 (hu1 hr) ev_str (ev_op (k_add xK rfl) (s_add (K := xK)) (eo_of (ev_ix (k_ix xK rfl (hu1 hr)) (s_ix (K := xK)) (eo_own 0) (eo_of ev_str))) (eo_of ev_int)))
    (svs_cons (sv_if (et_cmp (k_eq xK rfl (hu65 hr)) (s_eq (K := xK)) (eo_of (ev_ix (k_ix xK rfl (hu1 hr)) (s_ix (K := xK)) (eo_own 0) (eo_of ev_str))) (eo_of ev_int) (by first | exact nomark _ | rfl)) (svs_cons (sv_set (i := 2) rfl (by decide) sc__law_draw.nd rfl (by first | exact .inl rfl | exact .inr rfl) (ev_ix (k_ix xK rfl (hu1 hr)) (s_ix (K := xK)) (eo_of (ev_ix (k_ix xK rfl (hu1 hr)) (s_ix (K := xK)) (eo_own 0) (eo_of ev_str))) (eo_of (ev_op op_mod s_mod (eo_of (ev_ix (k_ix xK rfl (hu1 hr)) (s_ix (K := xK)) (eo_own 0) (eo_of ev_str))) (eo_of (ev_callB (k_len xK rfl) (s_len (K := xK)) (eos_cons (eo_of (ev_ix (k_ix xK rfl (hu1 hr)) (s_ix (K := xK)) (eo_own 0) (eo_of ev_str))) eos_nil) gs.b_len bt_len))))))
    (svs_cons (sv_dput 0 (hu1 hr) ev_str (ev_op (k_add xK rfl) (s_add (K := xK)) (eo_of (ev_ix (k_ix xK rfl (hu1 hr)) (s_ix (K := xK)) (eo_own 0) (eo_of ev_str))) (eo_of ev_int)))
    (svs_cons (sv_if (et_cmp op_lt s_b (eo_of (ev_var 2)) (eo_of (ev_op op_pow s_pow (eo_of ev_int) (eo_of ev_int))) (by first | exact nomark _ | rfl)) (svs_cons (sv_set (i := 3) rfl (by decide) sc__law_draw.nd rfl (by first | exact .inl rfl | exact .inr rfl) (ev_op op_mod s_mod (eo_of (ev_op (k_mul xK rfl) (s_mul (K := xK)) (eo_of (ev_op (k_add xK rfl) (s_add (K := xK)) (eo_of (ev_op op_mod s_mod (eo_of (ev_var 2)) (eo_of ev_int))) (eo_of (ev_op (k_mul xK rfl) (s_mul (K := xK)) (eo_of ev_int) (eo_of (ev_ix (k_ix xK rfl (hu1 hr)) (s_ix (K := xK)) (eo_own 0) (eo_of ev_str))))))) (eo_of ev_int))) (eo_of ev_int)))
    (svs_cons (sv_set (i := 3) rfl (by decide) sc__law_draw.nd rfl (by first | exact .inl rfl | exact .inr rfl) (ev_op op_mod s_mod (eo_of (ev_op (k_mul xK rfl) (s_mul (K := xK)) (eo_of (ev_op (k_add xK rfl) (s_add (K := xK)) (eo_of (ev_op op_fdivW s_fdiv (eo_of (ev_var 3)) (eo_of ev_int))) (eo_of (ev_op (k_mul xK rfl) (s_mul (K := xK)) (eo_of ev_int) (eo_of (ev_ix (k_ix xK rfl (hu1 hr)) (s_ix (K := xK)) (eo_own 0) (eo_of ev_str))))))) (eo_of ev_int))) (eo_of ev_int)))
    (svs_one (sv_ret (ev_op op_mod s_mod (eo_of (ev_op op_fdivW s_fdiv (eo_of (ev_var 3)) (eo_of ev_int))) (eo_of (ev_var 1))))))) svs_nil)
    (svs_one (sv_dput 0 (hu1 hr) ev_str (ev_var 2)))))) svs_nil)
    (svs_cons (sv_set (i := 4) rfl (by decide) sc__law_draw.nd rfl (by first | exact .inl rfl | exact .inr rfl) (ev_op op_mod s_mod (eo_of (ev_ix (k_ix xK rfl (hu1 hr)) (s_ix (K := xK)) (eo_own 0) (eo_of ev_str))) (eo_of (ev_var 1))))
    (svs_cons (sv_dput 0 (hu1 hr) ev_str (ev_op op_fdivW s_fdiv (eo_of (ev_ix (k_ix xK rfl (hu1 hr)) (s_ix (K := xK)) (eo_own 0) (eo_of ev_str))) (eo_of (ev_var 1))))
    (svs_one (sv_ret (ev_var 4)))))))⟩

/-! _law_names -/
abbrev s__law_names : Stmt := topS 19
theorem sc__law_names : FnScope ["_law_feed_here", "_law_many", "_law_letters", "_law_start", "_law_way", "_law_size", "_law_at", "_law_names_here", "_law_head", "_law_tail", "_law_turn", "_law_k"] ["_law_feed_here", "_law_many"] (defScope s__law_names) := ⟨rfl, rfl, rfl, by decide +kernel, rfl, by decide +kernel, by decide +kernel⟩
def m__law_names : MS :=
  (mSeq (mSet 2 (mOp2 mulD (mV (mC (.str "abcdefghijklmnopqrstuvwxyz"))) (mV (mC (.int 2)))))
  (mSeq (mSet 3 (mCall1 0 1 g__law_draw (mCons (mC (.int 26)) mNil)))
  (mSeq (mSet 4 (mCall1 0 1 g__law_draw (mCons (mC (.int 4)) mNil)))
  (mSeq (mSet 5 (mOp2 addD (mV (mC (.int 1))) (mV (mCall1 0 1 g__law_draw (mCons (mC (.int 8)) mNil)))))
  (mSeq (mSet 6 (mCall1 0 1 g__law_draw (mCons (mVar 5) mNil)))
  (mSeq (mSet 7 (mLst (mCons (mC (.str "names")) (mCons (mC (.str "ahead")) (mCons (mC (.str "name")) (mCons (mC (.str "a")) (mCons (mC (.str "ab")) (mCons (mC (.str "aheads")) (mCons (mC (.str "last")) (mCons (mC (.str "ask")) (mCons (mC (.str "row")) (mCons (mC (.str "end")) mNil))))))))))))
  (mSeq (mIfS (mTest (mOp2 eqD (mV (mVar 4)) (mV (mC (.int 0))))) (mSet 7 (mOp2 addD (mV (mLc (mR1 (mCons (mC (.int 8)) mNil)) (kName 11) mYes (mSl cutD (mV (mVar 2)) (mPart (mVar 3)) (mPart (mOp2 addD (mV (mOp2 addD (mV (mVar 3)) (mV (mC (.int 1))))) (mV (mVar 11))))) [11])) (mV (mLst (mCons (mOp2 ixD (mV (mVar 2)) (mV (mOp2 addD (mV (mVar 3)) (mV (mC (.int 9)))))) (mCons (mOp2 ixD (mV (mVar 2)) (mV (mOp2 addD (mV (mVar 3)) (mV (mC (.int 10)))))) mNil)))))) mNx)
  (mSeq (mIfS (mTest (mOp2 eqD (mV (mVar 4)) (mV (mC (.int 1))))) (mSeq (mSet 8 (mSl cutD (mV (mVar 2)) (mPart (mVar 3)) (mPart (mOp2 addD (mV (mVar 3)) (mV (mVar 6))))))
  (mSeq (mSet 9 (mSl cutD (mV (mVar 2)) (mPart (mOp2 addD (mV (mOp2 addD (mV (mVar 3)) (mV (mVar 6)))) (mV (mC (.int 1))))) (mPart (mOp2 addD (mV (mVar 3)) (mV (mVar 5))))))
  (mSet 7 (mLc (mR1 (mCons (mC (.int 10)) mNil)) (kName 11) mYes (mOp2 addD (mV (mOp2 addD (mV (mVar 8)) (mV (mOp2 ixD (mV (mVar 2)) (mV (mOp2 addD (mV (mVar 3)) (mV (mOp2 modD (mV (mOp2 mulD (mV (mC (.int 5))) (mV (mVar 11)))) (mV (mC (.int 26))))))))))) (mV (mVar 9))) [11])))) mNx)
  (mSeq (mIfS (mTest (mOp2 eqD (mV (mVar 4)) (mV (mC (.int 2))))) (mSet 7 (mLc (mR1 (mCons (mC (.int 10)) mNil)) (kName 11) mYes (mSl cutD (mV (mVar 2)) (mPart (mOp2 addD (mV (mVar 3)) (mV (mVar 11)))) (mPart (mOp2 addD (mV (mOp2 addD (mV (mOp2 addD (mV (mVar 3)) (mV (mVar 11)))) (mV (mC (.int 1))))) (mV (mOp2 modD (mV (mOp2 mulD (mV (mC (.int 3))) (mV (mVar 11)))) (mV (mC (.int 8)))))))) [11])) mNx)
  (mSeq (mSet 10 (mCall1 0 1 g__law_draw (mCons (mC (.int 10)) mNil)))
  (mSeq (mSet 7 (mOp2 addD (mV (mSl cutD (mV (mVar 7)) (mPart (mVar 10)) mNoPart)) (mV (mSl cutD (mV (mVar 7)) mNoPart (mPart (mVar 10))))))
  (mRet (mOp2 stepD (mV (mSl cutD (mV (mVar 7)) mNoPart (mPart (mVar 1)))) (mV (mOp2 ixD (mV (mLst (mCons (mC (.int 1)) (mCons (mOp1 negD (mV (mC (.int 1)))) mNil)))) (mV (mCall1 0 1 g__law_draw (mCons (mC (.int 2)) mNil))))))))))))))))))
def g__law_names : List D → R D := fun ds => (runF 12 1 m__law_names ds).noEx
theorem fn__law_names {f : Addr} {fd : FuncData} (G : L2.Fun K "_law_names" "_law_names" s__law_names f fd) (gs : Gs mg) (c__law_draw : Clp P w K mg base CX0 1 "_law_draw" 2 ((.dic .leaf) :: leaves 1) 1 .leaf g__law_draw) : FnG P w K mg base CX0 2 f fd ["_law_feed_here", "_law_many"] (spV K mg 2 ((.dic .leaf) :: leaves 1) 1 .leaf g__law_names) := by
  refine Fun.okG (k := 1) (n := 2) (psh := ((.dic .leaf) :: leaves 1)) (lsh := [.leaf, .leaf, .leaf, .leaf, .leaf, .leaf, .leaf, .leaf, .leaf, .leaf]) (fx := 1) (rsh := .leaf) (m := m__law_names) G sc__law_names rfl rfl rfl (by decide) (.inl rfl) fun X h1 h2 h3 h4 h5 h6 h7 h8 h9 henv hr hgd => ?_
  obtain ⟨xP, xw, xK, xmg, xb, xA, xN, xs, xH, xe, xo, xst, xex, xfn, xc, xpn, xx⟩ := X
  obtain ⟨xL, xf, xcd, henv⟩ := henv
  dsimp only at h1 h2 h3 h4 h5 h6 h7 h8 h9 henv hr hgd
  subst h1 h2 h3 h4 h5 h6 h7 h8 h9 henv
  exact ⟨_, (svs_cons (sv_set (i := 2) rfl (by decide) sc__law_names.nd rfl (by first | exact .inl rfl | exact .inr rfl) (ev_op (k_mul xK rfl) (s_mul (K := xK)) (eo_of ev_str) (eo_of ev_int)))
    (svs_cons (sv_set (i := 3) rfl (by decide) sc__law_names.nd rfl (by first | exact .inl rfl | exact .inr rfl) (kv_call1 xK rfl xmg rfl 0 (c__law_draw.cl (by decide) rfl rfl rfl rfl rfl) px0 hr hgd (ea_cons ev_int ea_nil)))
    (svs_cons (sv_set (i := 4) rfl (by decide) sc__law_names.nd rfl (by first | exact .inl rfl | exact .inr rfl) (kv_call1 xK rfl xmg rfl 0 (c__law_draw.cl (by decide) rfl rfl rfl rfl rfl) px0 hr hgd (ea_cons ev_int ea_nil)))
    (svs_cons (sv_set (i := 5) rfl (by decide) sc__law_names.nd rfl (by first | exact .inl rfl | exact .inr rfl) (ev_op (k_add xK rfl) (s_add (K := xK)) (eo_of ev_int) (eo_of (kv_call1 xK rfl xmg rfl 0 (c__law_draw.cl (by decide) rfl rfl rfl rfl rfl) px0 hr hgd (ea_cons ev_int ea_nil)))))
    (svs_cons (sv_set (i := 6) rfl (by decide) sc__law_names.nd rfl (by first | exact .inl rfl | exact .inr rfl) (kv_call1 xK rfl xmg rfl 0 (c__law_draw.cl (by decide) rfl rfl rfl rfl rfl) px0 hr hgd (ea_cons (ev_var 5) ea_nil)))
    (svs_cons (sv_set (i := 7) rfl (by decide) sc__law_names.nd rfl (by first | exact .inl rfl | exact .inr rfl) (ev_frz (ev_lst (ea_cons ev_str (ea_cons ev_str (ea_cons ev_str (ea_cons ev_str (ea_cons ev_str (ea_cons ev_str (ea_cons ev_str (ea_cons ev_str (ea_cons ev_str (ea_cons ev_str ea_nil)))))))))))))
    (svs_cons (sv_if (et_cmp (k_eq xK rfl (hu65 hr)) (s_eq (K := xK)) (eo_of (ev_var 4)) (eo_of ev_int) (by first | exact nomark _ | rfl)) (svs_one (sv_set (i := 7) rfl (by decide) sc__law_names.nd rfl (by first | exact .inl rfl | exact .inr rfl) (ev_op (k_add xK rfl) (s_add (K := xK)) (eo_of (ev_frz (ev_lc (own := [("_law_k", 11)]) rfl sc__law_names.nd (iv_rng1 (ea_cons ev_int ea_nil) gs.b_range) (blkOk_by (N := ["_law_feed_here", "_law_many", "_law_letters", "_law_start", "_law_way", "_law_size", "_law_at", "_law_names_here", "_law_head", "_law_tail", "_law_turn", "_law_k"]) (sc := defScope s__law_names) (own := [("_law_k", 11)]) (by decide +kernel)) (by decide) (hk1 rfl) (fun _ _ _ _ _ => (gv_name sc__law_names.nd (i := 11) rfl (by first | exact .inl rfl | exact .inr rfl) rfl (fun σ x => tw_set (by decide) σ x))) (fun _ _ _ _ _ => ets_nil) (fun _ _ _ _ _ => (ev_slice (k_sl xK rfl) (s_sl (K := xK)) (eo_of (ev_var 2)) (ept_some (ev_var 3)) (ept_some (ev_op (k_add xK rfl) (s_add (K := xK)) (eo_of (ev_op (k_add xK rfl) (s_add (K := xK)) (eo_of (ev_var 3)) (eo_of ev_int))) (eo_of (ev_var 11))))))))) (eo_of (ev_frz (ev_lst (ea_cons (ev_ix (k_ix xK rfl (hu1 hr)) (s_ix (K := xK)) (eo_of (ev_var 2)) (eo_of (ev_op (k_add xK rfl) (s_add (K := xK)) (eo_of (ev_var 3)) (eo_of ev_int)))) (ea_cons (ev_ix (k_ix xK rfl (hu1 hr)) (s_ix (K := xK)) (eo_of (ev_var 2)) (eo_of (ev_op (k_add xK rfl) (s_add (K := xK)) (eo_of (ev_var 3)) (eo_of ev_int)))) ea_nil)))))))) svs_nil)
    (svs_cons (sv_if (et_cmp (k_eq xK rfl (hu65 hr)) (s_eq (K := xK)) (eo_of (ev_var 4)) (eo_of ev_int) (by first | exact nomark _ | rfl)) (svs_cons (sv_set (i := 8) rfl (by decide) sc__law_names.nd rfl (by first | exact .inl rfl | exact .inr rfl) (ev_slice (k_sl xK rfl) (s_sl (K := xK)) (eo_of (ev_var 2)) (ept_some (ev_var 3)) (ept_some (ev_op (k_add xK rfl) (s_add (K := xK)) (eo_of (ev_var 3)) (eo_of (ev_var 6))))))
    (svs_cons (sv_set (i := 9) rfl (by decide) sc__law_names.nd rfl (by first | exact .inl rfl | exact .inr rfl) (ev_slice (k_sl xK rfl) (s_sl (K := xK)) (eo_of (ev_var 2)) (ept_some (ev_op (k_add xK rfl) (s_add (K := xK)) (eo_of (ev_op (k_add xK rfl) (s_add (K := xK)) (eo_of (ev_var 3)) (eo_of (ev_var 6)))) (eo_of ev_int))) (ept_some (ev_op (k_add xK rfl) (s_add (K := xK)) (eo_of (ev_var 3)) (eo_of (ev_var 5))))))
    (svs_one (sv_setLc (i := 7) (own := [("_law_k", 11)]) rfl sc__law_names.nd rfl rfl rfl (by decide) (by first | exact .inl rfl | exact .inr rfl) (sw_true rfl rfl rfl (by decide +kernel)) (iv_rng1 (ea_cons ev_int ea_nil) gs.b_range) (blkOk_by (N := ["_law_feed_here", "_law_many", "_law_letters", "_law_start", "_law_way", "_law_size", "_law_at", "_law_names_here", "_law_head", "_law_tail", "_law_turn", "_law_k"]) (sc := defScope s__law_names) (own := [("_law_k", 11)]) (by decide +kernel)) (by decide) (hk1 rfl) (fun _ _ _ _ _ => (gv_name sc__law_names.nd (i := 11) rfl (by first | exact .inl rfl | exact .inr rfl) rfl (fun σ x => tw_set (by decide) σ x))) (fun _ _ _ _ _ => ets_nil) (fun _ _ _ _ _ => (ev_op (k_add xK rfl) (s_add (K := xK)) (eo_of (ev_op (k_add xK rfl) (s_add (K := xK)) (eo_of (ev_var 8)) (eo_of (ev_ix (k_ix xK rfl (hu1 hr)) (s_ix (K := xK)) (eo_of (ev_var 2)) (eo_of (ev_op (k_add xK rfl) (s_add (K := xK)) (eo_of (ev_var 3)) (eo_of (ev_op op_mod s_mod (eo_of (ev_op (k_mul xK rfl) (s_mul (K := xK)) (eo_of ev_int) (eo_of (ev_var 11)))) (eo_of ev_int))))))))) (eo_of (ev_var 9)))))))) svs_nil)
    (svs_cons (sv_if (et_cmp (k_eq xK rfl (hu65 hr)) (s_eq (K := xK)) (eo_of (ev_var 4)) (eo_of ev_int) (by first | exact nomark _ | rfl)) (svs_one (sv_setLc (i := 7) (own := [("_law_k", 11)]) rfl sc__law_names.nd rfl rfl rfl (by decide) (by first | exact .inl rfl | exact .inr rfl) (sw_true rfl rfl rfl (by decide +kernel)) (iv_rng1 (ea_cons ev_int ea_nil) gs.b_range) (blkOk_by (N := ["_law_feed_here", "_law_many", "_law_letters", "_law_start", "_law_way", "_law_size", "_law_at", "_law_names_here", "_law_head", "_law_tail", "_law_turn", "_law_k"]) (sc := defScope s__law_names) (own := [("_law_k", 11)]) (by decide +kernel)) (by decide) (hk1 rfl) (fun _ _ _ _ _ => (gv_name sc__law_names.nd (i := 11) rfl (by first | exact .inl rfl | exact .inr rfl) rfl (fun σ x => tw_set (by decide) σ x))) (fun _ _ _ _ _ => ets_nil) (fun _ _ _ _ _ => (ev_slice (k_sl xK rfl) (s_sl (K := xK)) (eo_of (ev_var 2)) (ept_some (ev_op (k_add xK rfl) (s_add (K := xK)) (eo_of (ev_var 3)) (eo_of (ev_var 11)))) (ept_some (ev_op (k_add xK rfl) (s_add (K := xK)) (eo_of (ev_op (k_add xK rfl) (s_add (K := xK)) (eo_of (ev_op (k_add xK rfl) (s_add (K := xK)) (eo_of (ev_var 3)) (eo_of (ev_var 11)))) (eo_of ev_int))) (eo_of (ev_op op_mod s_mod (eo_of (ev_op (k_mul xK rfl) (s_mul (K := xK)) (eo_of ev_int) (eo_of (ev_var 11)))) (eo_of ev_int))))))))) svs_nil)
    (svs_cons (sv_set (i := 10) rfl (by decide) sc__law_names.nd rfl (by first | exact .inl rfl | exact .inr rfl) (kv_call1 xK rfl xmg rfl 0 (c__law_draw.cl (by decide) rfl rfl rfl rfl rfl) px0 hr hgd (ea_cons ev_int ea_nil)))
    (svs_cons (sv_set (i := 7) rfl (by decide) sc__law_names.nd rfl (by first | exact .inl rfl | exact .inr rfl) (ev_op (k_add xK rfl) (s_add (K := xK)) (eo_of (ev_slice (k_sl xK rfl) (s_sl (K := xK)) (eo_of (ev_var 7)) (ept_some (ev_var 10)) ept_none)) (eo_of (ev_slice (k_sl xK rfl) (s_sl (K := xK)) (eo_of (ev_var 7)) ept_none (ept_some (ev_var 10))))))
    (svs_one (sv_ret (ev_frz (ev_step xK rfl (eo_of (ev_slice (k_sl xK rfl) (s_sl (K := xK)) (eo_of (ev_var 7)) ept_none (ept_some (ev_var 1)))) (eo_of (ev_ix (k_ix xK rfl (hu1 hr)) (s_ix (K := xK)) (eo_of (ev_frz (ev_lst (ea_cons ev_int (ea_cons (ev_un un_neg s_neg (eo_of ev_int)) ea_nil))))) (eo_of (kv_call1 xK rfl xmg rfl 0 (c__law_draw.cl (by decide) rfl rfl rfl rfl rfl) px0 hr hgd (ea_cons ev_int ea_nil))))))))))))))))))))⟩

/-! _law_kinds -/
abbrev s__law_kinds : Stmt := topS 20
theorem sc__law_kinds : FnScope ["_law_e", "_law_some"] ["_law_e"] (defScope s__law_kinds) := ⟨rfl, rfl, rfl, by decide +kernel, rfl, by decide +kernel, by decide +kernel⟩
def m__law_kinds : MS :=
  (mSeq (mSet 1 (mLst (mCons (mIsV (mVar 0) [("Clash", true), ("NoBound", false), ("NoCover", false), ("NoHalf", false), ("NoJoin", false), ("NoMore", false), ("NoName", false), ("NoOrder", false), ("NoPaper", false), ("NoPlace", false), ("NoPlan", false), ("NoSaying", false), ("NoText", false), ("TooMany", false)]) (mCons (mIsV (mVar 0) [("Clash", false), ("NoBound", true), ("NoCover", false), ("NoHalf", false), ("NoJoin", false), ("NoMore", false), ("NoName", false), ("NoOrder", false), ("NoPaper", false), ("NoPlace", false), ("NoPlan", false), ("NoSaying", false), ("NoText", false), ("TooMany", false)]) (mCons (mIsV (mVar 0) [("Clash", false), ("NoBound", false), ("NoCover", true), ("NoHalf", false), ("NoJoin", false), ("NoMore", false), ("NoName", false), ("NoOrder", false), ("NoPaper", false), ("NoPlace", false), ("NoPlan", false), ("NoSaying", false), ("NoText", false), ("TooMany", false)]) (mCons (mIsV (mVar 0) [("Clash", false), ("NoBound", false), ("NoCover", false), ("NoHalf", true), ("NoJoin", false), ("NoMore", false), ("NoName", false), ("NoOrder", false), ("NoPaper", false), ("NoPlace", false), ("NoPlan", false), ("NoSaying", false), ("NoText", false), ("TooMany", false)]) mNil))))))
  (mSeq (mSet 1 (mOp2 addD (mV (mVar 1)) (mV (mLst (mCons (mIsV (mVar 0) [("Clash", false), ("NoBound", false), ("NoCover", false), ("NoHalf", false), ("NoJoin", true), ("NoMore", false), ("NoName", false), ("NoOrder", false), ("NoPaper", false), ("NoPlace", false), ("NoPlan", false), ("NoSaying", false), ("NoText", false), ("TooMany", false)]) (mCons (mIsV (mVar 0) [("Clash", false), ("NoBound", false), ("NoCover", false), ("NoHalf", false), ("NoJoin", false), ("NoMore", true), ("NoName", false), ("NoOrder", false), ("NoPaper", false), ("NoPlace", false), ("NoPlan", false), ("NoSaying", false), ("NoText", false), ("TooMany", false)]) (mCons (mIsV (mVar 0) [("Clash", false), ("NoBound", false), ("NoCover", false), ("NoHalf", false), ("NoJoin", false), ("NoMore", false), ("NoName", true), ("NoOrder", false), ("NoPaper", false), ("NoPlace", false), ("NoPlan", false), ("NoSaying", false), ("NoText", false), ("TooMany", false)]) (mCons (mIsV (mVar 0) [("Clash", false), ("NoBound", false), ("NoCover", false), ("NoHalf", false), ("NoJoin", false), ("NoMore", false), ("NoName", false), ("NoOrder", true), ("NoPaper", false), ("NoPlace", false), ("NoPlan", false), ("NoSaying", false), ("NoText", false), ("TooMany", false)]) mNil))))))))
  (mSeq (mSet 1 (mOp2 addD (mV (mVar 1)) (mV (mLst (mCons (mIsV (mVar 0) [("Clash", false), ("NoBound", false), ("NoCover", false), ("NoHalf", false), ("NoJoin", false), ("NoMore", false), ("NoName", false), ("NoOrder", false), ("NoPaper", true), ("NoPlace", false), ("NoPlan", false), ("NoSaying", false), ("NoText", false), ("TooMany", false)]) (mCons (mIsV (mVar 0) [("Clash", false), ("NoBound", false), ("NoCover", false), ("NoHalf", false), ("NoJoin", false), ("NoMore", false), ("NoName", false), ("NoOrder", false), ("NoPaper", false), ("NoPlace", true), ("NoPlan", false), ("NoSaying", false), ("NoText", false), ("TooMany", false)]) (mCons (mIsV (mVar 0) [("Clash", false), ("NoBound", false), ("NoCover", false), ("NoHalf", false), ("NoJoin", false), ("NoMore", false), ("NoName", false), ("NoOrder", false), ("NoPaper", false), ("NoPlace", false), ("NoPlan", true), ("NoSaying", false), ("NoText", false), ("TooMany", false)]) (mCons (mIsV (mVar 0) [("Clash", false), ("NoBound", false), ("NoCover", false), ("NoHalf", false), ("NoJoin", false), ("NoMore", false), ("NoName", false), ("NoOrder", false), ("NoPaper", false), ("NoPlace", false), ("NoPlan", false), ("NoSaying", true), ("NoText", false), ("TooMany", false)]) mNil))))))))
  (mRet (mOp2 addD (mV (mVar 1)) (mV (mLst (mCons (mIsV (mVar 0) [("Clash", false), ("NoBound", false), ("NoCover", false), ("NoHalf", false), ("NoJoin", false), ("NoMore", false), ("NoName", false), ("NoOrder", false), ("NoPaper", false), ("NoPlace", false), ("NoPlan", false), ("NoSaying", false), ("NoText", true), ("TooMany", false)]) (mCons (mIsV (mVar 0) [("Clash", false), ("NoBound", false), ("NoCover", false), ("NoHalf", false), ("NoJoin", false), ("NoMore", false), ("NoName", false), ("NoOrder", false), ("NoPaper", false), ("NoPlace", false), ("NoPlan", false), ("NoSaying", false), ("NoText", false), ("TooMany", true)]) mNil)))))))))
def g__law_kinds : List D → R D := fun ds => (runF 2 0 m__law_kinds ds).noEx
theorem fn__law_kinds {f : Addr} {fd : FuncData} (G : L2.Fun K "_law_kinds" "_law_kinds" s__law_kinds f fd) (gs : Gs mg) {A_Clash A_HalfError A_NoBound A_NoCover A_NoHalf A_NoJoin A_NoMore A_NoName A_NoOrder A_NoPaper A_NoPlace A_NoPlan A_NoSaying A_NoText A_TooMany : Addr} (zs : Xs w K mg base A_Clash A_HalfError A_NoBound A_NoCover A_NoHalf A_NoJoin A_NoMore A_NoName A_NoOrder A_NoPaper A_NoPlace A_NoPlan A_NoSaying A_NoText A_TooMany) : FnG P w K mg base CX0 1 f fd ["_law_e"] (spV K mg 1 (leaves 1) 0 .leaf g__law_kinds) := by
  refine Fun.okG (k := 0) (n := 1) (psh := (leaves 1)) (lsh := [.leaf]) (fx := 0) (rsh := .leaf) (m := m__law_kinds) G sc__law_kinds rfl rfl rfl (by decide) (.inl rfl) fun X h1 h2 h3 h4 h5 h6 h7 h8 h9 henv hr hgd => ?_
  obtain ⟨xP, xw, xK, xmg, xb, xA, xN, xs, xH, xe, xo, xst, xex, xfn, xc, xpn, xx⟩ := X
  obtain ⟨xL, xf, xcd, henv⟩ := henv
  dsimp only at h1 h2 h3 h4 h5 h6 h7 h8 h9 henv hr hgd
  subst h1 h2 h3 h4 h5 h6 h7 h8 h9 henv
  exact ⟨_, (svs_cons (sv_set (i := 1) rfl (by decide) sc__law_kinds.nd rfl (by first | exact .inl rfl | exact .inr rfl) (ev_frz (ev_lst (ea_cons (ev_isV (vc := (.ref A_Clash)) (cv := (.ref A_Clash)) [("Clash", true), ("NoBound", false), ("NoCover", false), ("NoHalf", false), ("NoJoin", false), ("NoMore", false), ("NoName", false), ("NoOrder", false), ("NoPaper", false), ("NoPlace", false), ("NoPlan", false), ("NoSaying", false), ("NoText", false), ("TooMany", false)] (istv_cons zs.y_Clash zs.e_Clash zs.k_Clash_Clash (istv_cons zs.y_NoBound zs.e_NoBound zs.k_NoBound_Clash (istv_cons zs.y_NoCover zs.e_NoCover zs.k_NoCover_Clash (istv_cons zs.y_NoHalf zs.e_NoHalf zs.k_NoHalf_Clash (istv_cons zs.y_NoJoin zs.e_NoJoin zs.k_NoJoin_Clash (istv_cons zs.y_NoMore zs.e_NoMore zs.k_NoMore_Clash (istv_cons zs.y_NoName zs.e_NoName zs.k_NoName_Clash (istv_cons zs.y_NoOrder zs.e_NoOrder zs.k_NoOrder_Clash (istv_cons zs.y_NoPaper zs.e_NoPaper zs.k_NoPaper_Clash (istv_cons zs.y_NoPlace zs.e_NoPlace zs.k_NoPlace_Clash (istv_cons zs.y_NoPlan zs.e_NoPlan zs.k_NoPlan_Clash (istv_cons zs.y_NoSaying zs.e_NoSaying zs.k_NoSaying_Clash (istv_cons zs.y_NoText zs.e_NoText zs.k_NoText_Clash (istv_cons zs.y_TooMany zs.e_TooMany zs.k_TooMany_Clash istv_nil)))))))))))))) (ev_var 0) (pe_glob rfl zs.g_Clash rfl) rel_ref gs.b_isinstance) (ea_cons (ev_isV (vc := (.ref A_NoBound)) (cv := (.ref A_NoBound)) [("Clash", false), ("NoBound", true), ("NoCover", false), ("NoHalf", false), ("NoJoin", false), ("NoMore", false), ("NoName", false), ("NoOrder", false), ("NoPaper", false), ("NoPlace", false), ("NoPlan", false), ("NoSaying", false), ("NoText", false), ("TooMany", false)] (istv_cons zs.y_Clash zs.e_Clash zs.k_Clash_NoBound (istv_cons zs.y_NoBound zs.e_NoBound zs.k_NoBound_NoBound (istv_cons zs.y_NoCover zs.e_NoCover zs.k_NoCover_NoBound (istv_cons zs.y_NoHalf zs.e_NoHalf zs.k_NoHalf_NoBound (istv_cons zs.y_NoJoin zs.e_NoJoin zs.k_NoJoin_NoBound (istv_cons zs.y_NoMore zs.e_NoMore zs.k_NoMore_NoBound (istv_cons zs.y_NoName zs.e_NoName zs.k_NoName_NoBound (istv_cons zs.y_NoOrder zs.e_NoOrder zs.k_NoOrder_NoBound (istv_cons zs.y_NoPaper zs.e_NoPaper zs.k_NoPaper_NoBound (istv_cons zs.y_NoPlace zs.e_NoPlace zs.k_NoPlace_NoBound (istv_cons zs.y_NoPlan zs.e_NoPlan zs.k_NoPlan_NoBound (istv_cons zs.y_NoSaying zs.e_NoSaying zs.k_NoSaying_NoBound (istv_cons zs.y_NoText zs.e_NoText zs.k_NoText_NoBound (istv_cons zs.y_TooMany zs.e_TooMany zs.k_TooMany_NoBound istv_nil)))))))))))))) (ev_var 0) (pe_glob rfl zs.g_NoBound rfl) rel_ref gs.b_isinstance) (ea_cons (ev_isV (vc := (.ref A_NoCover)) (cv := (.ref A_NoCover)) [("Clash", false), ("NoBound", false), ("NoCover", true), ("NoHalf", false), ("NoJoin", false), ("NoMore", false), ("NoName", false), ("NoOrder", false), ("NoPaper", false), ("NoPlace", false), ("NoPlan", false), ("NoSaying", false), ("NoText", false), ("TooMany", false)] (istv_cons zs.y_Clash zs.e_Clash zs.k_Clash_NoCover (istv_cons zs.y_NoBound zs.e_NoBound zs.k_NoBound_NoCover (istv_cons zs.y_NoCover zs.e_NoCover zs.k_NoCover_NoCover (istv_cons zs.y_NoHalf zs.e_NoHalf zs.k_NoHalf_NoCover (istv_cons zs.y_NoJoin zs.e_NoJoin zs.k_NoJoin_NoCover (istv_cons zs.y_NoMore zs.e_NoMore zs.k_NoMore_NoCover (istv_cons zs.y_NoName zs.e_NoName zs.k_NoName_NoCover (istv_cons zs.y_NoOrder zs.e_NoOrder zs.k_NoOrder_NoCover (istv_cons zs.y_NoPaper zs.e_NoPaper zs.k_NoPaper_NoCover (istv_cons zs.y_NoPlace zs.e_NoPlace zs.k_NoPlace_NoCover (istv_cons zs.y_NoPlan zs.e_NoPlan zs.k_NoPlan_NoCover (istv_cons zs.y_NoSaying zs.e_NoSaying zs.k_NoSaying_NoCover (istv_cons zs.y_NoText zs.e_NoText zs.k_NoText_NoCover (istv_cons zs.y_TooMany zs.e_TooMany zs.k_TooMany_NoCover istv_nil)))))))))))))) (ev_var 0) (pe_glob rfl zs.g_NoCover rfl) rel_ref gs.b_isinstance) (ea_cons (ev_isV (vc := (.ref A_NoHalf)) (cv := (.ref A_NoHalf)) [("Clash", false), ("NoBound", false), ("NoCover", false), ("NoHalf", true), ("NoJoin", false), ("NoMore", false), ("NoName", false), ("NoOrder", false), ("NoPaper", false), ("NoPlace", false), ("NoPlan", false), ("NoSaying", false), ("NoText", false), ("TooMany", false)] (istv_cons zs.y_Clash zs.e_Clash zs.k_Clash_NoHalf (istv_cons zs.y_NoBound zs.e_NoBound zs.k_NoBound_NoHalf (istv_cons zs.y_NoCover zs.e_NoCover zs.k_NoCover_NoHalf (istv_cons zs.y_NoHalf zs.e_NoHalf zs.k_NoHalf_NoHalf (istv_cons zs.y_NoJoin zs.e_NoJoin zs.k_NoJoin_NoHalf (istv_cons zs.y_NoMore zs.e_NoMore zs.k_NoMore_NoHalf (istv_cons zs.y_NoName zs.e_NoName zs.k_NoName_NoHalf (istv_cons zs.y_NoOrder zs.e_NoOrder zs.k_NoOrder_NoHalf (istv_cons zs.y_NoPaper zs.e_NoPaper zs.k_NoPaper_NoHalf (istv_cons zs.y_NoPlace zs.e_NoPlace zs.k_NoPlace_NoHalf (istv_cons zs.y_NoPlan zs.e_NoPlan zs.k_NoPlan_NoHalf (istv_cons zs.y_NoSaying zs.e_NoSaying zs.k_NoSaying_NoHalf (istv_cons zs.y_NoText zs.e_NoText zs.k_NoText_NoHalf (istv_cons zs.y_TooMany zs.e_TooMany zs.k_TooMany_NoHalf istv_nil)))))))))))))) (ev_var 0) (pe_glob rfl zs.g_NoHalf rfl) rel_ref gs.b_isinstance) ea_nil)))))))
    (svs_cons (sv_set (i := 1) rfl (by decide) sc__law_kinds.nd rfl (by first | exact .inl rfl | exact .inr rfl) (ev_op (k_add xK rfl) (s_add (K := xK)) (eo_of (ev_var 1)) (eo_of (ev_frz (ev_lst (ea_cons (ev_isV (vc := (.ref A_NoJoin)) (cv := (.ref A_NoJoin)) [("Clash", false), ("NoBound", false), ("NoCover", false), ("NoHalf", false), ("NoJoin", true), ("NoMore", false), ("NoName", false), ("NoOrder", false), ("NoPaper", false), ("NoPlace", false), ("NoPlan", false), ("NoSaying", false), ("NoText", false), ("TooMany", false)] (istv_cons zs.y_Clash zs.e_Clash zs.k_Clash_NoJoin (istv_cons zs.y_NoBound zs.e_NoBound zs.k_NoBound_NoJoin (istv_cons zs.y_NoCover zs.e_NoCover zs.k_NoCover_NoJoin (istv_cons zs.y_NoHalf zs.e_NoHalf zs.k_NoHalf_NoJoin (istv_cons zs.y_NoJoin zs.e_NoJoin zs.k_NoJoin_NoJoin (istv_cons zs.y_NoMore zs.e_NoMore zs.k_NoMore_NoJoin (istv_cons zs.y_NoName zs.e_NoName zs.k_NoName_NoJoin (istv_cons zs.y_NoOrder zs.e_NoOrder zs.k_NoOrder_NoJoin (istv_cons zs.y_NoPaper zs.e_NoPaper zs.k_NoPaper_NoJoin (istv_cons zs.y_NoPlace zs.e_NoPlace zs.k_NoPlace_NoJoin (istv_cons zs.y_NoPlan zs.e_NoPlan zs.k_NoPlan_NoJoin (istv_cons zs.y_NoSaying zs.e_NoSaying zs.k_NoSaying_NoJoin (istv_cons zs.y_NoText zs.e_NoText zs.k_NoText_NoJoin (istv_cons zs.y_TooMany zs.e_TooMany zs.k_TooMany_NoJoin istv_nil)))))))))))))) (ev_var 0) (pe_glob rfl zs.g_NoJoin rfl) rel_ref gs.b_isinstance) (ea_cons (ev_isV (vc := (.ref A_NoMore)) (cv := (.ref A_NoMore)) [("Clash", false), ("NoBound", false), ("NoCover", false), ("NoHalf", false), ("NoJoin", false), ("NoMore", true), ("NoName", false), ("NoOrder", false), ("NoPaper", false), ("NoPlace", false), ("NoPlan", false), ("NoSaying", false), ("NoText", false), ("TooMany", false)] (istv_cons zs.y_Clash zs.e_Clash zs.k_Clash_NoMore (istv_cons zs.y_NoBound zs.e_NoBound zs.k_NoBound_NoMore (istv_cons zs.y_NoCover zs.e_NoCover zs.k_NoCover_NoMore (istv_cons zs.y_NoHalf zs.e_NoHalf zs.k_NoHalf_NoMore (istv_cons zs.y_NoJoin zs.e_NoJoin zs.k_NoJoin_NoMore (istv_cons zs.y_NoMore zs.e_NoMore zs.k_NoMore_NoMore (istv_cons zs.y_NoName zs.e_NoName zs.k_NoName_NoMore (istv_cons zs.y_NoOrder zs.e_NoOrder zs.k_NoOrder_NoMore (istv_cons zs.y_NoPaper zs.e_NoPaper zs.k_NoPaper_NoMore (istv_cons zs.y_NoPlace zs.e_NoPlace zs.k_NoPlace_NoMore (istv_cons zs.y_NoPlan zs.e_NoPlan zs.k_NoPlan_NoMore (istv_cons zs.y_NoSaying zs.e_NoSaying zs.k_NoSaying_NoMore (istv_cons zs.y_NoText zs.e_NoText zs.k_NoText_NoMore (istv_cons zs.y_TooMany zs.e_TooMany zs.k_TooMany_NoMore istv_nil)))))))))))))) (ev_var 0) (pe_glob rfl zs.g_NoMore rfl) rel_ref gs.b_isinstance) (ea_cons (ev_isV (vc := (.ref A_NoName)) (cv := (.ref A_NoName)) [("Clash", false), ("NoBound", false), ("NoCover", false), ("NoHalf", false), ("NoJoin", false), ("NoMore", false), ("NoName", true), ("NoOrder", false), ("NoPaper", false), ("NoPlace", false), ("NoPlan", false), ("NoSaying", false), ("NoText", false), ("TooMany", false)] (istv_cons zs.y_Clash zs.e_Clash zs.k_Clash_NoName (istv_cons zs.y_NoBound zs.e_NoBound zs.k_NoBound_NoName (istv_cons zs.y_NoCover zs.e_NoCover zs.k_NoCover_NoName (istv_cons zs.y_NoHalf zs.e_NoHalf zs.k_NoHalf_NoName (istv_cons zs.y_NoJoin zs.e_NoJoin zs.k_NoJoin_NoName (istv_cons zs.y_NoMore zs.e_NoMore zs.k_NoMore_NoName (istv_cons zs.y_NoName zs.e_NoName zs.k_NoName_NoName (istv_cons zs.y_NoOrder zs.e_NoOrder zs.k_NoOrder_NoName (istv_cons zs.y_NoPaper zs.e_NoPaper zs.k_NoPaper_NoName (istv_cons zs.y_NoPlace zs.e_NoPlace zs.k_NoPlace_NoName (istv_cons zs.y_NoPlan zs.e_NoPlan zs.k_NoPlan_NoName (istv_cons zs.y_NoSaying zs.e_NoSaying zs.k_NoSaying_NoName (istv_cons zs.y_NoText zs.e_NoText zs.k_NoText_NoName (istv_cons zs.y_TooMany zs.e_TooMany zs.k_TooMany_NoName istv_nil)))))))))))))) (ev_var 0) (pe_glob rfl zs.g_NoName rfl) rel_ref gs.b_isinstance) (ea_cons (ev_isV (vc := (.ref A_NoOrder)) (cv := (.ref A_NoOrder)) [("Clash", false), ("NoBound", false), ("NoCover", false), ("NoHalf", false), ("NoJoin", false), ("NoMore", false), ("NoName", false), ("NoOrder", true), ("NoPaper", false), ("NoPlace", false), ("NoPlan", false), ("NoSaying", false), ("NoText", false), ("TooMany", false)] (istv_cons zs.y_Clash zs.e_Clash zs.k_Clash_NoOrder (istv_cons zs.y_NoBound zs.e_NoBound zs.k_NoBound_NoOrder (istv_cons zs.y_NoCover zs.e_NoCover zs.k_NoCover_NoOrder (istv_cons zs.y_NoHalf zs.e_NoHalf zs.k_NoHalf_NoOrder (istv_cons zs.y_NoJoin zs.e_NoJoin zs.k_NoJoin_NoOrder (istv_cons zs.y_NoMore zs.e_NoMore zs.k_NoMore_NoOrder (istv_cons zs.y_NoName zs.e_NoName zs.k_NoName_NoOrder (istv_cons zs.y_NoOrder zs.e_NoOrder zs.k_NoOrder_NoOrder (istv_cons zs.y_NoPaper zs.e_NoPaper zs.k_NoPaper_NoOrder (istv_cons zs.y_NoPlace zs.e_NoPlace zs.k_NoPlace_NoOrder (istv_cons zs.y_NoPlan zs.e_NoPlan zs.k_NoPlan_NoOrder (istv_cons zs.y_NoSaying zs.e_NoSaying zs.k_NoSaying_NoOrder (istv_cons zs.y_NoText zs.e_NoText zs.k_NoText_NoOrder (istv_cons zs.y_TooMany zs.e_TooMany zs.k_TooMany_NoOrder istv_nil)))))))))))))) (ev_var 0) (pe_glob rfl zs.g_NoOrder rfl) rel_ref gs.b_isinstance) ea_nil)))))))))
    (svs_cons (sv_set (i := 1) rfl (by decide) sc__law_kinds.nd rfl (by first | exact .inl rfl | exact .inr rfl) (ev_op (k_add xK rfl) (s_add (K := xK)) (eo_of (ev_var 1)) (eo_of (ev_frz (ev_lst (ea_cons (ev_isV (vc := (.ref A_NoPaper)) (cv := (.ref A_NoPaper)) [("Clash", false), ("NoBound", false), ("NoCover", false), ("NoHalf", false), ("NoJoin", false), ("NoMore", false), ("NoName", false), ("NoOrder", false), ("NoPaper", true), ("NoPlace", false), ("NoPlan", false), ("NoSaying", false), ("NoText", false), ("TooMany", false)] (istv_cons zs.y_Clash zs.e_Clash zs.k_Clash_NoPaper (istv_cons zs.y_NoBound zs.e_NoBound zs.k_NoBound_NoPaper (istv_cons zs.y_NoCover zs.e_NoCover zs.k_NoCover_NoPaper (istv_cons zs.y_NoHalf zs.e_NoHalf zs.k_NoHalf_NoPaper (istv_cons zs.y_NoJoin zs.e_NoJoin zs.k_NoJoin_NoPaper (istv_cons zs.y_NoMore zs.e_NoMore zs.k_NoMore_NoPaper (istv_cons zs.y_NoName zs.e_NoName zs.k_NoName_NoPaper (istv_cons zs.y_NoOrder zs.e_NoOrder zs.k_NoOrder_NoPaper (istv_cons zs.y_NoPaper zs.e_NoPaper zs.k_NoPaper_NoPaper (istv_cons zs.y_NoPlace zs.e_NoPlace zs.k_NoPlace_NoPaper (istv_cons zs.y_NoPlan zs.e_NoPlan zs.k_NoPlan_NoPaper (istv_cons zs.y_NoSaying zs.e_NoSaying zs.k_NoSaying_NoPaper (istv_cons zs.y_NoText zs.e_NoText zs.k_NoText_NoPaper (istv_cons zs.y_TooMany zs.e_TooMany zs.k_TooMany_NoPaper istv_nil)))))))))))))) (ev_var 0) (pe_glob rfl zs.g_NoPaper rfl) rel_ref gs.b_isinstance) (ea_cons (ev_isV (vc := (.ref A_NoPlace)) (cv := (.ref A_NoPlace)) [("Clash", false), ("NoBound", false), ("NoCover", false), ("NoHalf", false), ("NoJoin", false), ("NoMore", false), ("NoName", false), ("NoOrder", false), ("NoPaper", false), ("NoPlace", true), ("NoPlan", false), ("NoSaying", false), ("NoText", false), ("TooMany", false)] (istv_cons zs.y_Clash zs.e_Clash zs.k_Clash_NoPlace (istv_cons zs.y_NoBound zs.e_NoBound zs.k_NoBound_NoPlace (istv_cons zs.y_NoCover zs.e_NoCover zs.k_NoCover_NoPlace (istv_cons zs.y_NoHalf zs.e_NoHalf zs.k_NoHalf_NoPlace (istv_cons zs.y_NoJoin zs.e_NoJoin zs.k_NoJoin_NoPlace (istv_cons zs.y_NoMore zs.e_NoMore zs.k_NoMore_NoPlace (istv_cons zs.y_NoName zs.e_NoName zs.k_NoName_NoPlace (istv_cons zs.y_NoOrder zs.e_NoOrder zs.k_NoOrder_NoPlace (istv_cons zs.y_NoPaper zs.e_NoPaper zs.k_NoPaper_NoPlace (istv_cons zs.y_NoPlace zs.e_NoPlace zs.k_NoPlace_NoPlace (istv_cons zs.y_NoPlan zs.e_NoPlan zs.k_NoPlan_NoPlace (istv_cons zs.y_NoSaying zs.e_NoSaying zs.k_NoSaying_NoPlace (istv_cons zs.y_NoText zs.e_NoText zs.k_NoText_NoPlace (istv_cons zs.y_TooMany zs.e_TooMany zs.k_TooMany_NoPlace istv_nil)))))))))))))) (ev_var 0) (pe_glob rfl zs.g_NoPlace rfl) rel_ref gs.b_isinstance) (ea_cons (ev_isV (vc := (.ref A_NoPlan)) (cv := (.ref A_NoPlan)) [("Clash", false), ("NoBound", false), ("NoCover", false), ("NoHalf", false), ("NoJoin", false), ("NoMore", false), ("NoName", false), ("NoOrder", false), ("NoPaper", false), ("NoPlace", false), ("NoPlan", true), ("NoSaying", false), ("NoText", false), ("TooMany", false)] (istv_cons zs.y_Clash zs.e_Clash zs.k_Clash_NoPlan (istv_cons zs.y_NoBound zs.e_NoBound zs.k_NoBound_NoPlan (istv_cons zs.y_NoCover zs.e_NoCover zs.k_NoCover_NoPlan (istv_cons zs.y_NoHalf zs.e_NoHalf zs.k_NoHalf_NoPlan (istv_cons zs.y_NoJoin zs.e_NoJoin zs.k_NoJoin_NoPlan (istv_cons zs.y_NoMore zs.e_NoMore zs.k_NoMore_NoPlan (istv_cons zs.y_NoName zs.e_NoName zs.k_NoName_NoPlan (istv_cons zs.y_NoOrder zs.e_NoOrder zs.k_NoOrder_NoPlan (istv_cons zs.y_NoPaper zs.e_NoPaper zs.k_NoPaper_NoPlan (istv_cons zs.y_NoPlace zs.e_NoPlace zs.k_NoPlace_NoPlan (istv_cons zs.y_NoPlan zs.e_NoPlan zs.k_NoPlan_NoPlan (istv_cons zs.y_NoSaying zs.e_NoSaying zs.k_NoSaying_NoPlan (istv_cons zs.y_NoText zs.e_NoText zs.k_NoText_NoPlan (istv_cons zs.y_TooMany zs.e_TooMany zs.k_TooMany_NoPlan istv_nil)))))))))))))) (ev_var 0) (pe_glob rfl zs.g_NoPlan rfl) rel_ref gs.b_isinstance) (ea_cons (ev_isV (vc := (.ref A_NoSaying)) (cv := (.ref A_NoSaying)) [("Clash", false), ("NoBound", false), ("NoCover", false), ("NoHalf", false), ("NoJoin", false), ("NoMore", false), ("NoName", false), ("NoOrder", false), ("NoPaper", false), ("NoPlace", false), ("NoPlan", false), ("NoSaying", true), ("NoText", false), ("TooMany", false)] (istv_cons zs.y_Clash zs.e_Clash zs.k_Clash_NoSaying (istv_cons zs.y_NoBound zs.e_NoBound zs.k_NoBound_NoSaying (istv_cons zs.y_NoCover zs.e_NoCover zs.k_NoCover_NoSaying (istv_cons zs.y_NoHalf zs.e_NoHalf zs.k_NoHalf_NoSaying (istv_cons zs.y_NoJoin zs.e_NoJoin zs.k_NoJoin_NoSaying (istv_cons zs.y_NoMore zs.e_NoMore zs.k_NoMore_NoSaying (istv_cons zs.y_NoName zs.e_NoName zs.k_NoName_NoSaying (istv_cons zs.y_NoOrder zs.e_NoOrder zs.k_NoOrder_NoSaying (istv_cons zs.y_NoPaper zs.e_NoPaper zs.k_NoPaper_NoSaying (istv_cons zs.y_NoPlace zs.e_NoPlace zs.k_NoPlace_NoSaying (istv_cons zs.y_NoPlan zs.e_NoPlan zs.k_NoPlan_NoSaying (istv_cons zs.y_NoSaying zs.e_NoSaying zs.k_NoSaying_NoSaying (istv_cons zs.y_NoText zs.e_NoText zs.k_NoText_NoSaying (istv_cons zs.y_TooMany zs.e_TooMany zs.k_TooMany_NoSaying istv_nil)))))))))))))) (ev_var 0) (pe_glob rfl zs.g_NoSaying rfl) rel_ref gs.b_isinstance) ea_nil)))))))))
    (svs_one (sv_ret (ev_op (k_add xK rfl) (s_add (K := xK)) (eo_of (ev_var 1)) (eo_of (ev_frz (ev_lst (ea_cons (ev_isV (vc := (.ref A_NoText)) (cv := (.ref A_NoText)) [("Clash", false), ("NoBound", false), ("NoCover", false), ("NoHalf", false), ("NoJoin", false), ("NoMore", false), ("NoName", false), ("NoOrder", false), ("NoPaper", false), ("NoPlace", false), ("NoPlan", false), ("NoSaying", false), ("NoText", true), ("TooMany", false)] (istv_cons zs.y_Clash zs.e_Clash zs.k_Clash_NoText (istv_cons zs.y_NoBound zs.e_NoBound zs.k_NoBound_NoText (istv_cons zs.y_NoCover zs.e_NoCover zs.k_NoCover_NoText (istv_cons zs.y_NoHalf zs.e_NoHalf zs.k_NoHalf_NoText (istv_cons zs.y_NoJoin zs.e_NoJoin zs.k_NoJoin_NoText (istv_cons zs.y_NoMore zs.e_NoMore zs.k_NoMore_NoText (istv_cons zs.y_NoName zs.e_NoName zs.k_NoName_NoText (istv_cons zs.y_NoOrder zs.e_NoOrder zs.k_NoOrder_NoText (istv_cons zs.y_NoPaper zs.e_NoPaper zs.k_NoPaper_NoText (istv_cons zs.y_NoPlace zs.e_NoPlace zs.k_NoPlace_NoText (istv_cons zs.y_NoPlan zs.e_NoPlan zs.k_NoPlan_NoText (istv_cons zs.y_NoSaying zs.e_NoSaying zs.k_NoSaying_NoText (istv_cons zs.y_NoText zs.e_NoText zs.k_NoText_NoText (istv_cons zs.y_TooMany zs.e_TooMany zs.k_TooMany_NoText istv_nil)))))))))))))) (ev_var 0) (pe_glob rfl zs.g_NoText rfl) rel_ref gs.b_isinstance) (ea_cons (ev_isV (vc := (.ref A_TooMany)) (cv := (.ref A_TooMany)) [("Clash", false), ("NoBound", false), ("NoCover", false), ("NoHalf", false), ("NoJoin", false), ("NoMore", false), ("NoName", false), ("NoOrder", false), ("NoPaper", false), ("NoPlace", false), ("NoPlan", false), ("NoSaying", false), ("NoText", false), ("TooMany", true)] (istv_cons zs.y_Clash zs.e_Clash zs.k_Clash_TooMany (istv_cons zs.y_NoBound zs.e_NoBound zs.k_NoBound_TooMany (istv_cons zs.y_NoCover zs.e_NoCover zs.k_NoCover_TooMany (istv_cons zs.y_NoHalf zs.e_NoHalf zs.k_NoHalf_TooMany (istv_cons zs.y_NoJoin zs.e_NoJoin zs.k_NoJoin_TooMany (istv_cons zs.y_NoMore zs.e_NoMore zs.k_NoMore_TooMany (istv_cons zs.y_NoName zs.e_NoName zs.k_NoName_TooMany (istv_cons zs.y_NoOrder zs.e_NoOrder zs.k_NoOrder_TooMany (istv_cons zs.y_NoPaper zs.e_NoPaper zs.k_NoPaper_TooMany (istv_cons zs.y_NoPlace zs.e_NoPlace zs.k_NoPlace_TooMany (istv_cons zs.y_NoPlan zs.e_NoPlan zs.k_NoPlan_TooMany (istv_cons zs.y_NoSaying zs.e_NoSaying zs.k_NoSaying_TooMany (istv_cons zs.y_NoText zs.e_NoText zs.k_NoText_TooMany (istv_cons zs.y_TooMany zs.e_TooMany zs.k_TooMany_TooMany istv_nil)))))))))))))) (ev_var 0) (pe_glob rfl zs.g_TooMany rfl) rel_ref gs.b_isinstance) ea_nil)))))))))))⟩

/-! _law_own -/
abbrev s__law_own : Stmt := topS 21
theorem sc__law_own : FnScope ["_law_e", "_law_at", "_law_due", "_law_k"] ["_law_e", "_law_at"] (defScope s__law_own) := ⟨rfl, rfl, rfl, by decide +kernel, rfl, by decide +kernel, by decide +kernel⟩
def m__law_own : MS :=
  (mSeq (mSet 2 (mLc (mR1 (mCons (mC (.int 14)) mNil)) (kName 3) mYes (mOp2 eqD (mV (mVar 3)) (mV (mVar 1))) [3]))
  (mRet (mAndV (mIsV (mVar 0) [("Clash", true), ("NoBound", true), ("NoCover", true), ("NoHalf", true), ("NoJoin", true), ("NoMore", true), ("NoName", true), ("NoOrder", true), ("NoPaper", true), ("NoPlace", true), ("NoPlan", true), ("NoSaying", true), ("NoText", true), ("TooMany", true)]) (mAndV (mIsV (mVar 0) [("Clash", true), ("NoBound", true), ("NoCover", true), ("NoHalf", true), ("NoJoin", true), ("NoMore", true), ("NoName", true), ("NoOrder", true), ("NoPaper", true), ("NoPlace", true), ("NoPlan", true), ("NoSaying", true), ("NoText", true), ("TooMany", true)]) (mOp2 eqD (mV (mCall0 1 g__law_kinds (mCons (mVar 0) mNil))) (mV (mVar 2)))))))
def g__law_own : List D → R D := fun ds => (runF 4 0 m__law_own ds).noEx
theorem fn__law_own {f : Addr} {fd : FuncData} (G : L2.Fun K "_law_own" "_law_own" s__law_own f fd) (gs : Gs mg) {A_Clash A_HalfError A_NoBound A_NoCover A_NoHalf A_NoJoin A_NoMore A_NoName A_NoOrder A_NoPaper A_NoPlace A_NoPlan A_NoSaying A_NoText A_TooMany : Addr} (zs : Xs w K mg base A_Clash A_HalfError A_NoBound A_NoCover A_NoHalf A_NoJoin A_NoMore A_NoName A_NoOrder A_NoPaper A_NoPlace A_NoPlan A_NoSaying A_NoText A_TooMany) (c__law_kinds : Clp P w K mg base CX0 1 "_law_kinds" 1 (leaves 1) 0 .leaf g__law_kinds) : FnG P w K mg base CX0 2 f fd ["_law_e", "_law_at"] (spV K mg 2 (leaves 2) 0 .leaf g__law_own) := by
  refine Fun.okG (k := 1) (n := 2) (psh := (leaves 2)) (lsh := [.leaf, .leaf]) (fx := 0) (rsh := .leaf) (m := m__law_own) G sc__law_own rfl rfl rfl (by decide) (.inl rfl) fun X h1 h2 h3 h4 h5 h6 h7 h8 h9 henv hr hgd => ?_
  obtain ⟨xP, xw, xK, xmg, xb, xA, xN, xs, xH, xe, xo, xst, xex, xfn, xc, xpn, xx⟩ := X
  obtain ⟨xL, xf, xcd, henv⟩ := henv
  dsimp only at h1 h2 h3 h4 h5 h6 h7 h8 h9 henv hr hgd
  subst h1 h2 h3 h4 h5 h6 h7 h8 h9 henv
  exact ⟨_, (svs_cons (sv_setLc (i := 2) (own := [("_law_k", 3)]) rfl sc__law_own.nd rfl rfl rfl (by decide) (by first | exact .inl rfl | exact .inr rfl) (sw_true rfl rfl rfl (by decide +kernel)) (iv_rng1 (ea_cons ev_int ea_nil) gs.b_range) (blkOk_by (N := ["_law_e", "_law_at", "_law_due", "_law_k"]) (sc := defScope s__law_own) (own := [("_law_k", 3)]) (by decide +kernel)) (by decide) (hk1 rfl) (fun _ _ _ _ _ => (gv_name sc__law_own.nd (i := 3) rfl (by first | exact .inl rfl | exact .inr rfl) rfl (fun σ x => tw_set (by decide) σ x))) (fun _ _ _ _ _ => ets_nil) (fun _ _ _ _ _ => (ev_cmp (k_eq xK rfl (hu65 hr)) (s_eq (K := xK)) (eo_of (ev_var 3)) (eo_of (ev_var 1)) (by first | exact nomark _ | rfl))))
    (svs_one (sv_ret (ev_and (ev_isV (vc := (.ref A_HalfError)) (cv := (.ref A_HalfError)) [("Clash", true), ("NoBound", true), ("NoCover", true), ("NoHalf", true), ("NoJoin", true), ("NoMore", true), ("NoName", true), ("NoOrder", true), ("NoPaper", true), ("NoPlace", true), ("NoPlan", true), ("NoSaying", true), ("NoText", true), ("TooMany", true)] (istv_cons zs.y_Clash zs.e_Clash zs.k_Clash_HalfError (istv_cons zs.y_NoBound zs.e_NoBound zs.k_NoBound_HalfError (istv_cons zs.y_NoCover zs.e_NoCover zs.k_NoCover_HalfError (istv_cons zs.y_NoHalf zs.e_NoHalf zs.k_NoHalf_HalfError (istv_cons zs.y_NoJoin zs.e_NoJoin zs.k_NoJoin_HalfError (istv_cons zs.y_NoMore zs.e_NoMore zs.k_NoMore_HalfError (istv_cons zs.y_NoName zs.e_NoName zs.k_NoName_HalfError (istv_cons zs.y_NoOrder zs.e_NoOrder zs.k_NoOrder_HalfError (istv_cons zs.y_NoPaper zs.e_NoPaper zs.k_NoPaper_HalfError (istv_cons zs.y_NoPlace zs.e_NoPlace zs.k_NoPlace_HalfError (istv_cons zs.y_NoPlan zs.e_NoPlan zs.k_NoPlan_HalfError (istv_cons zs.y_NoSaying zs.e_NoSaying zs.k_NoSaying_HalfError (istv_cons zs.y_NoText zs.e_NoText zs.k_NoText_HalfError (istv_cons zs.y_TooMany zs.e_TooMany zs.k_TooMany_HalfError istv_nil)))))))))))))) (ev_var 0) (pe_glob rfl zs.g_HalfError rfl) rel_ref gs.b_isinstance) (ev_and (ev_isV (vc := (.ty "ValueError")) (cv := (.type "ValueError")) [("Clash", true), ("NoBound", true), ("NoCover", true), ("NoHalf", true), ("NoJoin", true), ("NoMore", true), ("NoName", true), ("NoOrder", true), ("NoPaper", true), ("NoPlace", true), ("NoPlan", true), ("NoSaying", true), ("NoText", true), ("TooMany", true)] (istv_cons zs.y_Clash zs.e_Clash zs.k_Clash_ValueError (istv_cons zs.y_NoBound zs.e_NoBound zs.k_NoBound_ValueError (istv_cons zs.y_NoCover zs.e_NoCover zs.k_NoCover_ValueError (istv_cons zs.y_NoHalf zs.e_NoHalf zs.k_NoHalf_ValueError (istv_cons zs.y_NoJoin zs.e_NoJoin zs.k_NoJoin_ValueError (istv_cons zs.y_NoMore zs.e_NoMore zs.k_NoMore_ValueError (istv_cons zs.y_NoName zs.e_NoName zs.k_NoName_ValueError (istv_cons zs.y_NoOrder zs.e_NoOrder zs.k_NoOrder_ValueError (istv_cons zs.y_NoPaper zs.e_NoPaper zs.k_NoPaper_ValueError (istv_cons zs.y_NoPlace zs.e_NoPlace zs.k_NoPlace_ValueError (istv_cons zs.y_NoPlan zs.e_NoPlan zs.k_NoPlan_ValueError (istv_cons zs.y_NoSaying zs.e_NoSaying zs.k_NoSaying_ValueError (istv_cons zs.y_NoText zs.e_NoText zs.k_NoText_ValueError (istv_cons zs.y_TooMany zs.e_TooMany zs.k_TooMany_ValueError istv_nil)))))))))))))) (ev_var 0) (pe_bltn rfl gs.b_ValueError bt_ValueError rfl) rel_ty gs.b_isinstance) (ev_one (ev_cmp (k_eq xK rfl (hu65 hr)) (s_eq (K := xK)) (eo_of (kv_call0 xK rfl xmg rfl (c__law_kinds.cl (by decide) rfl rfl rfl rfl rfl) px0 hr hgd (ea_cons (ev_var 0) ea_nil))) (eo_of (ev_var 2)) (by first | exact nomark _ | rfl))))))))⟩

/-! law -/
abbrev s_law : Stmt := topS 22
theorem sc_law : FnScope ["_law_script", "_law_feed_here", "_law_k", "_law_word", "_law_number", "_law_way", "_law_bound", "_law_half", "_law_paper", "_law_plan", "_law_some", "_law_told", "_law_at"] ["_law_script"] (defScope s_law) := ⟨rfl, rfl, rfl, by decide +kernel, rfl, by decide +kernel, by decide +kernel⟩
def m_law : MS :=
  (mSeq (mSet 1 (mCall0 1 g__law_feed (mCons (mVar 0) mNil)))
  (mSeq (mLoop (kName 2) (mSeq (mSet 3 (mOp2 ixD (mV (mLst (mCons (mC (.str "tale")) (mCons (mC (.str "half")) (mCons (mC (.str "orders")) (mCons (mC (.str "")) mNil)))))) (mV (mCall1 1 1 g__law_draw (mCons (mC (.int 4)) mNil)))))
  (mSeq (mSet 4 (mOp2 subD (mV (mCall1 1 1 g__law_draw (mCons (mOp2 powD (mV (mC (.int 10))) (mV (mC (.int 20)))) mNil))) (mV (mC (.int 5)))))
  (mSeq (mSet 5 (mOp1 tupleD (mV (mCall1 1 1 g__law_names (mCons (mCall1 1 1 g__law_draw (mCons (mC (.int 4)) mNil)) mNil)))))
  (mSeq (mSet 6 (mExv "NoBound" ["word", "row"] (mCons (mVar 3) (mCons (mVar 4) mNil))))
  (mSeq (mSet 7 (mExv "NoHalf" ["word", "number"] (mCons (mVar 3) (mCons (mVar 4) mNil))))
  (mSeq (mSet 8 (mExv "NoPaper" ["word", "row"] (mCons (mVar 3) (mCons (mVar 4) mNil))))
  (mSeq (mSet 9 (mExv "NoPlan" ["word", "path"] (mCons (mVar 3) (mCons (mVar 5) mNil))))
  (mSeq (mSet 10 (mLst (mCons (mExv "Clash" ["way"] (mCons (mVar 5) mNil)) (mCons (mVar 6) (mCons (mC (.exv "NoCover" [])) (mCons (mVar 7) (mCons (mExv "NoJoin" ["word"] (mCons (mVar 3) mNil)) (mCons (mC (.exv "NoMore" [])) (mCons (mExv "NoName" ["name"] (mCons (mVar 3) mNil)) mNil)))))))))
  (mSeq (mSet 10 (mOp2 catD (mS 10) (mV (mLst (mCons (mC (.exv "NoOrder" [])) (mCons (mVar 8) (mCons (mExv "NoPlace" ["number"] (mCons (mVar 4) mNil)) (mCons (mVar 9) (mCons (mExv "NoSaying" ["number"] (mCons (mVar 4) mNil)) (mCons (mExv "NoText" ["row"] (mCons (mVar 4) mNil)) mNil))))))))))
  (mSeq (mDrop (mMtL 10 appendD (mCons (mExv "TooMany" ["word"] (mCons (mVar 3) mNil)) mNil)))
  (mSeq (mIfS (mTest (mOp2 inD (mV (mC (.bl false))) (mV (mLc (mR1 (mCons (mC (.int 14)) mNil)) (kName 12) mYes (mCall0 2 g__law_own (mCons (mOp2 ixD (mS 10) (mV (mVar 12))) (mCons (mVar 12) mNil))) [12])))) (mRet (mC (.bl false))) mNx)
  (mSeq (mSet 11 (mLst (mCons (mXfV (mVar 6) "NoBound" "word") (mCons (mXfV (mVar 6) "NoBound" "row") (mCons (mXfV (mVar 7) "NoHalf" "word") (mCons (mXfV (mVar 7) "NoHalf" "number") (mCons (mXfV (mVar 8) "NoPaper" "word") (mCons (mXfV (mVar 8) "NoPaper" "row") (mCons (mXfV (mVar 9) "NoPlan" "word") (mCons (mXfV (mVar 9) "NoPlan" "path") mNil))))))))))
  (mSeq (mIfS (mTest (mOp2 neD (mV (mOpN (one reprD) (mOCons (mV (mVar 11)) mONil))) (mV (mOpN (one reprD) (mOCons (mV (mLst (mCons (mVar 3) (mCons (mVar 4) (mCons (mVar 3) (mCons (mVar 4) (mCons (mVar 3) (mCons (mVar 4) (mCons (mVar 3) (mCons (mVar 5) mNil)))))))))) mONil))))) (mRet (mC (.bl false))) mNx)
  (mSeq (mSet 11 (mLst (mCons (mXfV (mOp2 ixD (mS 10) (mV (mC (.int 0)))) "Clash" "way") (mCons (mXfV (mOp2 ixD (mS 10) (mV (mC (.int 4)))) "NoJoin" "word") (mCons (mXfV (mOp2 ixD (mS 10) (mV (mC (.int 6)))) "NoName" "name") (mCons (mXfV (mOp2 ixD (mS 10) (mV (mC (.int 9)))) "NoPlace" "number") (mCons (mXfV (mOp2 ixD (mS 10) (mV (mC (.int 11)))) "NoSaying" "number") (mCons (mXfV (mOp2 ixD (mS 10) (mV (mC (.int 12)))) "NoText" "row") (mCons (mXfV (mOp2 ixD (mS 10) (mV (mC (.int 13)))) "TooMany" "word") mNil)))))))))
  (mIfS (mTest (mOp2 neD (mV (mOpN (one reprD) (mOCons (mV (mVar 11)) mONil))) (mV (mOpN (one reprD) (mOCons (mV (mLst (mCons (mVar 5) (mCons (mVar 3) (mCons (mVar 3) (mCons (mVar 4) (mCons (mVar 4) (mCons (mVar 4) (mCons (mVar 3) mNil))))))))) mONil))))) (mRet (mC (.bl false))) mNx))))))))))))))) (mR1 (mCons (mC (.int 2)) mNil)))
  (mRet (mC (.bl true)))))
def g_law : List D → R D := fun ds => (runF 13 0 m_law ds).noEx
theorem fn_law {f : Addr} {fd : FuncData} (G : L2.Fun K "law" "law" s_law f fd) (gs : Gs mg) {A_Clash A_HalfError A_NoBound A_NoCover A_NoHalf A_NoJoin A_NoMore A_NoName A_NoOrder A_NoPaper A_NoPlace A_NoPlan A_NoSaying A_NoText A_TooMany : Addr} (zs : Xs w K mg base A_Clash A_HalfError A_NoBound A_NoCover A_NoHalf A_NoJoin A_NoMore A_NoName A_NoOrder A_NoPaper A_NoPlace A_NoPlan A_NoSaying A_NoText A_TooMany) (c__law_draw : Clp P w K mg base CX0 1 "_law_draw" 2 ((.dic .leaf) :: leaves 1) 1 .leaf g__law_draw) (c__law_feed : Clp P w K mg base CX0 1 "_law_feed" 1 (leaves 1) 0 (.dic .leaf) g__law_feed) (c__law_names : Clp P w K mg base CX0 2 "_law_names" 2 ((.dic .leaf) :: leaves 1) 1 .leaf g__law_names) (c__law_own : Clp P w K mg base CX0 2 "_law_own" 2 (leaves 2) 0 .leaf g__law_own) : FnG P w K mg base CX0 3 f fd ["_law_script"] (spV K mg 1 (leaves 1) 0 .leaf g_law) := by
  refine Fun.okG (k := 2) (n := 1) (psh := (leaves 1)) (lsh := [(.dic .leaf), .leaf, .leaf, .leaf, .leaf, .leaf, .leaf, .leaf, .leaf, (.lst .leaf), .leaf, .leaf]) (fx := 0) (rsh := .leaf) (m := m_law) G sc_law rfl rfl rfl (by decide) (.inl rfl) fun X h1 h2 h3 h4 h5 h6 h7 h8 h9 henv hr hgd => ?_
  obtain ⟨xP, xw, xK, xmg, xb, xA, xN, xs, xH, xe, xo, xst, xex, xfn, xc, xpn, xx⟩ := X
  obtain ⟨xL, xf, xcd, henv⟩ := henv
  dsimp only at h1 h2 h3 h4 h5 h6 h7 h8 h9 henv hr hgd
  subst h1 h2 h3 h4 h5 h6 h7 h8 h9 henv
  exact ⟨_, (svs_cons (sv_set (i := 1) rfl (by decide) sc_law.nd rfl (by first | exact .inl rfl | exact .inr rfl) (kv_call0 xK rfl xmg rfl (c__law_feed.cl (by decide) rfl rfl rfl rfl rfl) px0 hr hgd (ea_cons (ev_var 0) ea_nil)))
    (svs_cons (sv_for PassesOwn.never rfl (iv_rng1 (ea_cons ev_int ea_nil) gs.b_range) (gv_name sc_law.nd (i := 2) rfl (by first | exact .inl rfl | exact .inr rfl) rfl (fun σ x => tk_set (by decide) σ x)) (svs_cons (sv_set (i := 3) rfl (by decide) sc_law.nd rfl (by first | exact .inl rfl | exact .inr rfl) (ev_ix (k_ix xK rfl (hu1 hr)) (s_ix (K := xK)) (eo_of (ev_frz (ev_lst (ea_cons ev_str (ea_cons ev_str (ea_cons ev_str (ea_cons ev_str ea_nil))))))) (eo_of (kv_call1 xK rfl xmg rfl 1 (c__law_draw.cl (by decide) rfl rfl rfl rfl rfl) px0 hr hgd (ea_cons ev_int ea_nil)))))
    (svs_cons (sv_set (i := 4) rfl (by decide) sc_law.nd rfl (by first | exact .inl rfl | exact .inr rfl) (ev_op op_sub s_sub (eo_of (kv_call1 xK rfl xmg rfl 1 (c__law_draw.cl (by decide) rfl rfl rfl rfl rfl) px0 hr hgd (ea_cons (ev_op op_pow s_pow (eo_of ev_int) (eo_of ev_int)) ea_nil))) (eo_of ev_int)))
    (svs_cons (sv_set (i := 5) rfl (by decide) sc_law.nd rfl (by first | exact .inl rfl | exact .inr rfl) (kv_tupleOf xK rfl (eo_of (kv_call1 xK rfl xmg rfl 1 (c__law_names.cl (by decide) rfl rfl rfl rfl rfl) px0 hr hgd (ea_cons (kv_call1 xK rfl xmg rfl 1 (c__law_draw.cl (by decide) rfl rfl rfl rfl rfl) px0 hr hgd (ea_cons ev_int ea_nil)) ea_nil))) gs.b_tuple))
    (svs_cons (sv_set (i := 6) rfl (by decide) sc_law.nd rfl (by first | exact .inl rfl | exact .inr rfl) (ev_exv zs.z_NoBound zs.y_NoBound (hr.mono (by decide)) (by decide) (ea_cons (ev_var 3) (ea_cons (ev_var 4) ea_nil))))
    (svs_cons (sv_set (i := 7) rfl (by decide) sc_law.nd rfl (by first | exact .inl rfl | exact .inr rfl) (ev_exv zs.z_NoHalf zs.y_NoHalf (hr.mono (by decide)) (by decide) (ea_cons (ev_var 3) (ea_cons (ev_var 4) ea_nil))))
    (svs_cons (sv_set (i := 8) rfl (by decide) sc_law.nd rfl (by first | exact .inl rfl | exact .inr rfl) (ev_exv zs.z_NoPaper zs.y_NoPaper (hr.mono (by decide)) (by decide) (ea_cons (ev_var 3) (ea_cons (ev_var 4) ea_nil))))
    (svs_cons (sv_set (i := 9) rfl (by decide) sc_law.nd rfl (by first | exact .inl rfl | exact .inr rfl) (ev_exv zs.z_NoPlan zs.y_NoPlan (hr.mono (by decide)) (by decide) (ea_cons (ev_var 3) (ea_cons (ev_var 5) ea_nil))))
    (svs_cons (sv_set (i := 10) rfl (by decide) sc_law.nd rfl (by first | exact .inl rfl | exact .inr rfl) (ev_lst (ea_cons (ev_exv zs.z_Clash zs.y_Clash (hr.mono (by decide)) (by decide) (ea_cons (ev_var 5) ea_nil)) (ea_cons (ev_var 6) (ea_cons (ev_exn zs.z_NoCover zs.y_NoCover) (ea_cons (ev_var 7) (ea_cons (ev_exv zs.z_NoJoin zs.y_NoJoin (hr.mono (by decide)) (by decide) (ea_cons (ev_var 3) ea_nil)) (ea_cons (ev_exn zs.z_NoMore zs.y_NoMore) (ea_cons (ev_exv zs.z_NoName zs.y_NoName (hr.mono (by decide)) (by decide) (ea_cons (ev_var 3) ea_nil)) ea_nil)))))))))
    (svs_cons (sv_set (i := 10) rfl (by decide) sc_law.nd rfl (by first | exact .inl rfl | exact .inr rfl) (ev_op op_cat s_cat (eo_own 10) (eo_of (ev_frz (ev_lst (ea_cons (ev_exn zs.z_NoOrder zs.y_NoOrder) (ea_cons (ev_var 8) (ea_cons (ev_exv zs.z_NoPlace zs.y_NoPlace (hr.mono (by decide)) (by decide) (ea_cons (ev_var 4) ea_nil)) (ea_cons (ev_var 9) (ea_cons (ev_exv zs.z_NoSaying zs.y_NoSaying (hr.mono (by decide)) (by decide) (ea_cons (ev_var 4) ea_nil)) (ea_cons (ev_exv zs.z_NoText zs.y_NoText (hr.mono (by decide)) (by decide) (ea_cons (ev_var 4) ea_nil)) ea_nil)))))))))))
    (svs_cons (sv_expr (ev_mtL 10 PySem.F.slot_list_append PySem.F.type_list_append mt_append m_append (ea_cons (ev_exv zs.z_TooMany zs.y_TooMany (hr.mono (by decide)) (by decide) (ea_cons (ev_var 3) ea_nil)) ea_nil)))
    (svs_cons (sv_if (et_cmp (k_in xK rfl (hu64 hr)) (s_in (K := xK)) (eo_of ev_bl) (eo_of (ev_frz (ev_lc (own := [("_law_at", 12)]) rfl sc_law.nd (iv_rng1 (ea_cons ev_int ea_nil) gs.b_range) (blkOk_by (N := ["_law_script", "_law_feed_here", "_law_k", "_law_word", "_law_number", "_law_way", "_law_bound", "_law_half", "_law_paper", "_law_plan", "_law_some", "_law_told", "_law_at"]) (sc := defScope s_law) (own := [("_law_at", 12)]) (by decide +kernel)) (by decide) (hk1 rfl) (fun _ _ _ _ _ => (gv_name sc_law.nd (i := 12) rfl (by first | exact .inl rfl | exact .inr rfl) rfl (fun σ x => tw_set (by decide) σ x))) (fun _ _ _ _ _ => ets_nil) (fun _ _ _ _ _ => (kv_call0 xK rfl xmg rfl (c__law_own.cl (by decide) rfl rfl rfl rfl rfl) px0 hr hgd (ea_cons (ev_ix (k_ix xK rfl (hu1 hr)) (s_ix (K := xK)) (eo_own 10) (eo_of (ev_var 12))) (ea_cons (ev_var 12) ea_nil))))))) (by first | exact nomark _ | rfl)) (svs_one (sv_ret ev_bl)) svs_nil)
    (svs_cons (sv_set (i := 11) rfl (by decide) sc_law.nd rfl (by first | exact .inl rfl | exact .inr rfl) (ev_frz (ev_lst (ea_cons (ev_fldV zs.y_NoBound zs.x_NoBound zs.n_NoBound_word (ev_var 6)) (ea_cons (ev_fldV zs.y_NoBound zs.x_NoBound zs.n_NoBound_row (ev_var 6)) (ea_cons (ev_fldV zs.y_NoHalf zs.x_NoHalf zs.n_NoHalf_word (ev_var 7)) (ea_cons (ev_fldV zs.y_NoHalf zs.x_NoHalf zs.n_NoHalf_number (ev_var 7)) (ea_cons (ev_fldV zs.y_NoPaper zs.x_NoPaper zs.n_NoPaper_word (ev_var 8)) (ea_cons (ev_fldV zs.y_NoPaper zs.x_NoPaper zs.n_NoPaper_row (ev_var 8)) (ea_cons (ev_fldV zs.y_NoPlan zs.x_NoPlan zs.n_NoPlan_word (ev_var 9)) (ea_cons (ev_fldV zs.y_NoPlan zs.x_NoPlan zs.n_NoPlan_path (ev_var 9)) ea_nil)))))))))))
    (svs_cons (sv_if (et_cmp (k_ne xK rfl (hu65 hr)) (s_ne (K := xK)) (eo_of (ev_callB (k_repr xK rfl hgd (hu65 hr)) (s_repr (K := xK)) (eos_cons (eo_of (ev_var 11)) eos_nil) gs.b_repr bt_repr)) (eo_of (ev_callB (k_repr xK rfl hgd (hu65 hr)) (s_repr (K := xK)) (eos_cons (eo_of (ev_frz (ev_lst (ea_cons (ev_var 3) (ea_cons (ev_var 4) (ea_cons (ev_var 3) (ea_cons (ev_var 4) (ea_cons (ev_var 3) (ea_cons (ev_var 4) (ea_cons (ev_var 3) (ea_cons (ev_var 5) ea_nil))))))))))) eos_nil) gs.b_repr bt_repr)) (by first | exact nomark _ | rfl)) (svs_one (sv_ret ev_bl)) svs_nil)
    (svs_cons (sv_set (i := 11) rfl (by decide) sc_law.nd rfl (by first | exact .inl rfl | exact .inr rfl) (ev_frz (ev_lst (ea_cons (ev_fldV zs.y_Clash zs.x_Clash zs.n_Clash_way (ev_ix (k_ix xK rfl (hu1 hr)) (s_ix (K := xK)) (eo_own 10) (eo_of ev_int))) (ea_cons (ev_fldV zs.y_NoJoin zs.x_NoJoin zs.n_NoJoin_word (ev_ix (k_ix xK rfl (hu1 hr)) (s_ix (K := xK)) (eo_own 10) (eo_of ev_int))) (ea_cons (ev_fldV zs.y_NoName zs.x_NoName zs.n_NoName_name (ev_ix (k_ix xK rfl (hu1 hr)) (s_ix (K := xK)) (eo_own 10) (eo_of ev_int))) (ea_cons (ev_fldV zs.y_NoPlace zs.x_NoPlace zs.n_NoPlace_number (ev_ix (k_ix xK rfl (hu1 hr)) (s_ix (K := xK)) (eo_own 10) (eo_of ev_int))) (ea_cons (ev_fldV zs.y_NoSaying zs.x_NoSaying zs.n_NoSaying_number (ev_ix (k_ix xK rfl (hu1 hr)) (s_ix (K := xK)) (eo_own 10) (eo_of ev_int))) (ea_cons (ev_fldV zs.y_NoText zs.x_NoText zs.n_NoText_row (ev_ix (k_ix xK rfl (hu1 hr)) (s_ix (K := xK)) (eo_own 10) (eo_of ev_int))) (ea_cons (ev_fldV zs.y_TooMany zs.x_TooMany zs.n_TooMany_word (ev_ix (k_ix xK rfl (hu1 hr)) (s_ix (K := xK)) (eo_own 10) (eo_of ev_int))) ea_nil))))))))))
    (svs_one (sv_if (et_cmp (k_ne xK rfl (hu65 hr)) (s_ne (K := xK)) (eo_of (ev_callB (k_repr xK rfl hgd (hu65 hr)) (s_repr (K := xK)) (eos_cons (eo_of (ev_var 11)) eos_nil) gs.b_repr bt_repr)) (eo_of (ev_callB (k_repr xK rfl hgd (hu65 hr)) (s_repr (K := xK)) (eos_cons (eo_of (ev_frz (ev_lst (ea_cons (ev_var 5) (ea_cons (ev_var 3) (ea_cons (ev_var 3) (ea_cons (ev_var 4) (ea_cons (ev_var 4) (ea_cons (ev_var 4) (ea_cons (ev_var 3) ea_nil)))))))))) eos_nil) gs.b_repr bt_repr)) (by first | exact nomark _ | rfl)) (svs_one (sv_ret ev_bl)) svs_nil)))))))))))))))))
    (svs_one (sv_ret ev_bl))))⟩

end
/-! ### the law's feed -/
def feedD (cs : List D) (a l t : Int) : D := .dK [(.inr "cells", .lst cs), (.inr "at", .int a), (.inr "left", .int l), (.inr "turn", .int t)]
structure Feed (d : D) : Prop where
  ex : ∃ cs a l t, d = feedD cs a l t ∧ cs ≠ [] ∧ cs.length ≤ 100 ∧ ∀ x ∈ cs, ∃ i, x = .int i
section
variable (cs : List D) (a l t v : Int)
theorem fx_cells : ixD (feedD cs a l t) (.str "cells") = some (.lst cs) := rfl
theorem fx_at : ixD (feedD cs a l t) (.str "at") = some (.int a) := rfl
theorem fx_left : ixD (feedD cs a l t) (.str "left") = some (.int l) := rfl
theorem fx_turn : ixD (feedD cs a l t) (.str "turn") = some (.int t) := rfl
theorem fp_at : putD (feedD cs a l t) (.str "at") (.int v) = some (feedD cs v l t) := rfl
theorem fp_left : putD (feedD cs a l t) (.str "left") (.int v) = some (feedD cs a v t) := rfl
theorem fp_turn : putD (feedD cs a l t) (.str "turn") (.int v) = some (feedD cs a l v) := rfl
end
theorem atI_in {α : Type} {xs : List α} {i : Int} (h0 : 0 ≤ i) (h1 : i < xs.length) : ∃ x, atI xs i = some x ∧ x ∈ xs := by
  have e : i = ((i.toNat : Nat) : Int) := by omega
  have h : i.toNat < xs.length := by omega
  refine ⟨xs[i.toNat], ?_, List.getElem_mem h⟩
  have q := atI_nat (List.getElem?_eq_getElem h)
  rwa [← e] at q
theorem mulOkR {i j : Int} (h : -(2 ^ 64) < j ∧ j < 2 ^ 64) : mulOk i j = true := by
  unfold mulOk
  rw [decide_eq_true h, Bool.or_true, Bool.true_or]
theorem mulOkL {i j : Int} (h : -(2 ^ 64) < i ∧ i < 2 ^ 64) : mulOk i j = true := by
  unfold mulOk
  rw [decide_eq_true h, Bool.true_or, Bool.true_or]
theorem draw_ok {d : D} {n : Int} (hd : Feed d) (h0 : 0 < n) (h1 : n < 10 ^ 30) : ∃ r d', g__law_draw [d, .int n] = .ok (.int r) [some d'] ∧ Feed d' ∧ 0 ≤ r ∧ r < n := by
  obtain ⟨cs, a, l, t, rfl, hne, hlen, hint⟩ := hd.ex
  have hpos0 : 0 < cs.length := List.length_pos_iff.mpr hne
  have hpos : 0 < (cs.length : Int) := by omega
  obtain ⟨c, hc, cm⟩ := atI_in (xs := cs) (Int.emod_nonneg a (by omega)) (Int.emod_lt_of_pos a hpos)
  obtain ⟨ci, rfl⟩ := hint c cm
  have mk : ∀ a l t, Feed (feedD cs a l t) := fun a l t => ⟨cs, a, l, t, rfl, hne, hlen, hint⟩
  have hixc : ixD (.lst cs) (.int (a % (cs.length : Int))) = some (.int ci) := hc
  have hm : ∀ i j : Int, -(2 ^ 64) < j ∧ j < 2 ^ 64 → mulOk i j = true := fun i j h => mulOkR h
  have hm' : ∀ i j : Int, -(2 ^ 64) < i ∧ i < 2 ^ 64 → mulOk i j = true := fun i j h => mulOkL h
  have m1 := hm' 1013 (t + 1) (by decide)
  have m2 := hm (ci % 2147483629 + 1013 * (t + 1)) 48271 (by decide)
  have m3 := hm' 37 (t + 1) (by decide)
  have h1' : n < 1000000000000000000000000000000 := h1
  by_cases hl : l = 0
  · by_cases hb : ci < 1000000000000000000
    · let x := (ci % 2147483629 + 1013 * (t + 1)) * 48271 % 2147483647
      let y := (x / 13 + 37 * (t + 1)) * 69621 % 2147483587
      have m4 := hm (x / 13 + 37 * (t + 1)) 69621 (by decide)
      refine ⟨y / 7 % n, feedD cs (a + 1) l (t + 1), ?_, mk _ _ _, Int.emod_nonneg _ (by omega), Int.emod_lt_of_pos _ h0⟩
      simp only [x] at m4
      simp [g__law_draw, m__law_draw, fx_cells, fx_at, fx_left, fx_turn, fp_at, fp_left, fp_turn, lenD, hl, hpos0, hpos, hixc, hb, m1, m2, m3, m4, h0, h1, h1', x, y, R.noEx]
    · refine ⟨ci % n, feedD cs (a + 1) (ci / n) (t + 1), ?_, mk _ _ _, Int.emod_nonneg _ (by omega), Int.emod_lt_of_pos _ h0⟩
      simp [g__law_draw, m__law_draw, fx_cells, fx_at, fx_left, fx_turn, fp_at, fp_left, fp_turn, lenD, hl, hpos0, hpos, hixc, hb, h0, h1, h1', R.noEx]
  · refine ⟨l % n, feedD cs a (l / n) (t + 1), ?_, mk _ _ _, Int.emod_nonneg _ (by omega), Int.emod_lt_of_pos _ h0⟩
    simp [g__law_draw, m__law_draw, fx_cells, fx_at, fx_left, fx_turn, fp_at, fp_left, fp_turn, lenD, hl, h0, h1, h1', R.noEx]
theorem eq_nil (ms : List Int) : eqD (.scr ms) (.lst []) = some (.bl (decide (ms = []))) := by
  have h : eqOk (.scr ms) (.lst []) = true := by simp [eqOk, D.py, pyL, D.toPy, toPyL, PyData.depth, PyData.depthAll]
  have e : eqB (.scr ms) (.lst []) = some (eqv (.scr ms) (.lst [])) := by
    show (if eqOk (.scr ms) (.lst []) = true then some (eqv (.scr ms) (.lst [])) else none) = _
    rw [if_pos h]
  unfold eqD
  rw [e]
  unfold eqv
  rw [D.toPy, D.toPy, toPyL]
  cases ms with
  | nil => simp [PyData.eqv, PyData.eqvAll]
  | cons x r => simp [PyData.eqv, PyData.eqvAll]
theorem cut_len {α : Type} (xs : List α) (lo hi : Option Int) : (cutL xs lo hi).length ≤ xs.length := by
  unfold cutL
  rw [List.length_take, List.length_drop]
  omega
theorem feed_ok (ms : List Int) (hl : ms.length ≤ 63) : ∃ d ρ, g__law_feed [.scr ms] = .ok d ρ ∧ Feed d := by
  have hc := cut_len ms none (some 63)
  by_cases h : ms = []
  · subst h
    refine ⟨feedD [.int 0] 0 0 0, [], ?_, ⟨_, _, _, _, rfl, by simp, by simp, fun x m => ⟨0, by simpa using m⟩⟩⟩
    simp [g__law_feed, m__law_feed, cutD, cutL, listD, D.mem, intD, mulD, eq_nil, keyK, R.noEx]
    rfl
  · refine ⟨feedD ((cutL ms none (some 63)).map .int) 0 0 0, [], ?_, ⟨_, _, _, _, rfl, ?_, by rw [List.length_map]; omega, fun x m => ?_⟩⟩
    · simp [g__law_feed, m__law_feed, cutD, listD, D.mem, intD, mulD, eq_nil, keyK, R.noEx, h]
      rw [if_pos (by omega)]
      rfl
    · intro z
      have z2 : cutL ms none (some 63) = [] := List.map_eq_nil_iff.mp z
      have : (cutL ms none (some 63)).length = ms.length := by
        unfold cutL
        rw [List.length_take, List.length_drop]
        have e1 : HT.sIx ms.length 0 none = 0 := rfl
        have e2 : HT.sIx ms.length ms.length (some 63) = min 63 ms.length := HT.sIx_nat _ _ 63
        rw [e1, e2]
        omega
      rw [z2] at this
      exact h (List.length_eq_zero_iff.mp this.symm)
    · obtain ⟨i, _, e⟩ := List.mem_map.mp m
      exact ⟨i, e.symm⟩
theorem sat_draw {i : Nat} {n : Int} {ρ : DEnv} {a : MA} {d : D} {Q : D → DEnv → Prop} (hs : ρ[i]? = some (some d)) (hd : Feed d) (ha : a ρ = .ok [.int n] ρ) (h0 : 0 < n) (h1 : n < 10 ^ 30)
    (hQ : ∀ r d', 0 ≤ r → r < n → Feed d' → Q (.int r) (ρ.set i (some d'))) : Sat (mCall1 i 1 g__law_draw a ρ) Q := by
  obtain ⟨r, d', e, f, b0, b1⟩ := draw_ok hd h0 h1
  refine ⟨.int r, ρ.set i (some d'), ?_, hQ r d' b0 b1 f⟩
  rw [e_call1]
  simp only [e_own, hs, Option.bind_some, id, R.of_some, R.bind_ok, ha, List.length_singleton, if_true, e]
theorem sat_op2r {f : D → D → Option D} {a : MO} {m : ME} {ρ : DEnv} {d : D} {Q : D → DEnv → Prop} (ha : a ρ = .ok (.v d) ρ) (hm : Sat (m ρ) fun e ρ1 => ∃ z, f d e = some z ∧ Q z ρ1) : Sat (mOp2 f a (mV m) ρ) Q := by
  obtain ⟨e, ρ1, e1, z, e2, q⟩ := hm
  refine ⟨z, ρ1, ?_, q⟩
  simp [ha, e1, e2]
theorem str_len_append (x y : Str) : (x ++ y).length = x.length + y.length := by
  show (x.cps ++ y.cps).size = _
  rw [Array.size_append]; rfl
theorem cutS (x : Str) (lo hi : Option Int) : ∃ y : Str, cutD lo hi (.str x) = some (.str y) ∧ y.length ≤ x.length := ⟨_, rfl, by
  show (cutL x.cps.toList lo hi).toArray.size ≤ x.cps.size
  rw [List.size_toArray]
  have := cut_len x.cps.toList lo hi
  rwa [Array.length_toList] at this⟩
theorem ixS {x : Str} {i : Int} (h0 : 0 ≤ i) (h1 : i < x.length) : ∃ c ∈ x.cps.toList, ixD (.str x) (.int i) = some (.str ⟨#[c]⟩) := by
  obtain ⟨c, e, m⟩ := atI_in (xs := x.cps.toList) h0 (by rw [Array.length_toList]; exact h1)
  refine ⟨c, m, ?_⟩
  show (atI x.cps.toList i).bind _ = _
  rw [e]; rfl
@[simp] theorem ne_rp (p : PyData) : neD (.rp p) (.rp p) = some (.bl false) := by simp [neD, eqB]
theorem law_of {m : MS} {N : Nat} {ms : List Int} (h : Sat (m ([some (.scr ms)] ++ List.replicate (N - 1) none)) fun f _ => f = .rt (.bl true)) : ∃ ρ, (runF N 0 m [.scr ms]).noEx = .ok (.bl true) ρ := by
  obtain ⟨f, ρ, e, rfl⟩ := h
  refine ⟨ρ.take 0, ?_⟩
  rw [e_run]
  show (fin 0 (m ([some (.scr ms)] ++ List.replicate (N - 1) none))).noEx = _
  rw [e]; rfl
theorem sat_loop {k : D → DEnv → Option DEnv} {body : MS} {ma : MA} {ds : List D} {ρ : DEnv} {Q : Fl → DEnv → Prop} (h : ma ρ = .ok ds ρ) (s : Sat (mFor k body ds ρ) Q) : Sat (mLoop k body ma ρ) Q := by
  rw [e_loop, h]; exact s
/-! ### what is drawn: specs of the law's drawing defs -/
def FS (g : List D → R D) (args : List D) (P : D → Prop) : Prop := ∀ d, Feed d → ∃ v d', g (d :: args) = .ok v [some d'] ∧ Feed d' ∧ P v
theorem sat_fs {i n : Nat} {g : List D → R D} {a : MA} {ρ : DEnv} {d0 : D} {Q : D → DEnv → Prop} (h0 : ρ[i]? = some (some d0))
    (ha : Sat (a ρ) fun ds ρ1 => ds.length = n ∧ ∃ d P, ρ1[i]? = some (some d) ∧ Feed d ∧ FS g ds P ∧ ∀ v d', P v → Feed d' → Q v (ρ1.set i (some d'))) : Sat (mCall1 i n g a ρ) Q := by
  obtain ⟨ds, ρ1, e1, hn, d, P, e2, fd, hs, hQ⟩ := ha
  obtain ⟨v, d', e3, fd', hp⟩ := hs d fd
  refine ⟨v, ρ1.set i (some d'), ?_, hQ v d' hp fd'⟩
  rw [e_call1]
  simp only [e_own, h0, Option.bind_some, id, R.of_some, R.bind_ok, e1, e2, hn, if_true, e3]
theorem fs_run {N : Nat} {m : MS} {args : List D} {P : D → Prop} (h : ∀ d, Feed d → Sat (m (some d :: args.map some ++ List.replicate (N - (args.length + 1)) none)) fun f ρ => ∃ v d', f = .rt v ∧ ρ.take 1 = [some d'] ∧ Feed d' ∧ P v) :
    FS (fun ds => (runF N 1 m ds).noEx) args P := fun d fd => by
  obtain ⟨f, ρ, e, v, d', rfl, e2, fd', hp⟩ := h d fd
  refine ⟨v, d', ?_, fd', hp⟩
  have e3 : m ((d :: args).map some ++ List.replicate (N - (d :: args).length) none) = .ok (.rt v) ρ := e
  show (runF N 1 m (d :: args)).noEx = _
  rw [e_run, e3, e_fin2, e2]; rfl
theorem sat_cons {m : ME} {t : MA} {ρ : DEnv} {Q : List D → DEnv → Prop} (h : Sat (m ρ) fun d ρ1 => Sat (t ρ1) fun ds ρ2 => Q (d :: ds) ρ2) : Sat (mCons m t ρ) Q := by
  obtain ⟨d, ρ1, e1, ds, ρ2, e2, q⟩ := h
  exact ⟨_, _, by rw [e_cons, e1, R.bind_ok, e2, R.bind_ok], q⟩
theorem sat_nil {ρ : DEnv} {Q : List D → DEnv → Prop} (h : Q [] ρ) : Sat (mNil ρ) Q := ⟨_, _, rfl, h⟩
theorem mem_range {lo : Int} {n : Nat} {d : D} (h : d ∈ rangeD lo n) : ∃ i : Nat, i < n ∧ d = .int (lo + i) := by
  obtain ⟨i, m, rfl⟩ := List.mem_map.mp h
  exact ⟨i, List.mem_range.mp m, rfl⟩
theorem len_range (lo : Int) (n : Nat) : (rangeD lo n).length = n := by unfold rangeD; rw [List.length_map, List.length_range]
theorem asStrs_some : ∀ {l : List D} {xs : List Str}, asStrs l = some xs → l = xs.map .str
  | [], _, e => by cases e; rfl
  | d :: l, xs, e => by
    cases d with
    | str x =>
      unfold asStrs at e
      cases q : asStrs l with
      | none => rw [q] at e; cases e
      | some t => rw [q] at e; cases e; rw [asStrs_some q]; rfl
    | _ => cases e
theorem cut_from {α : Type} (xs : List α) {t : Int} (h : 0 ≤ t) : cutL xs (some t) none = xs.drop t.toNat := by
  unfold cutL
  have e1 : HT.sIx xs.length 0 (some t) = min t.toNat xs.length := by
    show (if t < 0 then (t + (xs.length : Int)).toNat else min t.toNat xs.length) = _
    rw [if_neg (by omega)]
  have e2 : HT.sIx xs.length xs.length none = xs.length := rfl
  rw [e1, e2]
  by_cases q : t.toNat ≤ xs.length
  · rw [Nat.min_eq_left q, List.take_of_length_le (by rw [List.length_drop]; omega)]
  · rw [Nat.min_eq_right (by omega), List.drop_of_length_le (Nat.le_refl _), List.drop_of_length_le (by omega), List.take_nil]
theorem cut_to {α : Type} (xs : List α) {t : Int} (h : 0 ≤ t) : cutL xs none (some t) = xs.take t.toNat := by
  unfold cutL
  have e1 : HT.sIx xs.length 0 none = 0 := rfl
  have e2 : HT.sIx xs.length xs.length (some t) = min t.toNat xs.length := by
    show (if t < 0 then (t + (xs.length : Int)).toNat else min t.toNat xs.length) = _
    rw [if_neg (by omega)]
  rw [e1, e2, List.drop_zero, Nat.sub_zero]
  by_cases q : t.toNat ≤ xs.length
  · rw [Nat.min_eq_left q]
  · rw [Nat.min_eq_right (by omega), List.take_of_length_le (Nat.le_refl _), List.take_of_length_le (by omega)]
@[simp] theorem d_cutL (lo hi : Option Int) (ds : List D) : cutD lo hi (.lst ds) = some (.lst (cutL ds lo hi)) := rfl
@[simp] theorem d_cutT (lo hi : Option Int) (ds : List D) : cutD lo hi (.tup ds) = some (.tup (cutL ds lo hi)) := rfl

/-! ### names -/
def goodB (x : Str) : Bool := decide (1 ≤ x.length) && decide (x.length ≤ 8) && x.cps.toList.all fun c => decide (97 ≤ c) && decide (c ≤ 122)
structure GoodNs (xs : List Str) : Prop where
  nd : xs.Nodup
  all : ∀ x ∈ xs, goodB x = true
def baseB (xs : List Str) : Bool := decide (xs.length = 10) && decide xs.Nodup && xs.all goodB
theorem baseE {xs : List Str} (h : baseB xs = true) : xs.length = 10 ∧ GoodNs xs := by
  unfold baseB at h
  rw [Bool.and_eq_true, Bool.and_eq_true, decide_eq_true_eq, decide_eq_true_eq, List.all_eq_true] at h
  exact ⟨h.1.1, h.1.2, h.2⟩
theorem GoodNs.sub {xs ys : List Str} (h : GoodNs xs) (s : ys.Sublist xs) : GoodNs ys := ⟨h.nd.sublist s, fun x m => h.all x (s.subset m)⟩
theorem GoodNs.perm {xs ys : List Str} (h : GoodNs xs) (s : ys.Perm xs) : GoodNs ys := ⟨s.nodup_iff.mpr h.nd, fun x m => h.all x (s.subset m)⟩
def LLs : List Nat := [97, 98, 99, 100, 101, 102, 103, 104, 105, 106, 107, 108, 109, 110, 111, 112, 113, 114, 115, 116, 117, 118, 119, 120, 121, 122, 97, 98, 99, 100, 101, 102, 103, 104, 105, 106, 107, 108, 109, 110, 111, 112, 113, 114, 115, 116, 117, 118, 119, 120, 121, 122]
def LL : Str := ⟨LLs.toArray⟩
theorem LL_eq : repS "abcdefghijklmnopqrstuvwxyz" 2 = LL := by decide +kernel
def chk (l : List D) : Bool := match asStrs l with
  | some xs => baseB xs
  | none => false
theorem chkE {l : List D} (h : chk l = true) : ∃ xs, l = xs.map .str ∧ xs.length = 10 ∧ GoodNs xs := by
  unfold chk at h
  split at h
  · rename_i xs e
    obtain ⟨a, b⟩ := baseE h
    exact ⟨xs, asStrs_some e, a, b⟩
  · cases h
def f0 (s : Int) : D → D
  | .int k => (cutD (some s) (some (s + 1 + k)) (.str LL)).getD .non
  | _ => .non
def ixL (i : Int) : D := (ixD (.str LL) (.int i)).getD .non
def n0 (s : Int) : List D := (rangeD 0 8).map (f0 s) ++ [ixL (s + 9), ixL (s + 10)]
def cutX (lo hi : Int) : Str := ⟨(cutL LLs (some lo) (some hi)).toArray⟩
def f1 (s z a : Int) : D → D
  | .int k => .str (cutX s (s + a) ++ ((atI LLs (s + 5 * k % 26)).elim Str.empty fun c => ⟨#[c]⟩) ++ cutX (s + a + 1) (s + z))
  | _ => .non
def n1 (s z a : Int) : List D := (rangeD 0 10).map (f1 s z a)
def f2 (s : Int) : D → D
  | .int k => .str (cutX (s + k) (s + k + 1 + 3 * k % 8))
  | _ => .non
def n2 (s : Int) : List D := (rangeD 0 10).map (f2 s)
def n3 : List D := [.str "names", .str "ahead", .str "name", .str "a", .str "ab", .str "aheads", .str "last", .str "ask", .str "row", .str "end"]
theorem chk0 : ∀ s : Nat, s < 26 → chk (n0 s) = true := by decide +kernel
theorem cut_mid {α : Type} (xs : List α) {lo hi : Int} (h0 : 0 ≤ lo) (h1 : lo ≤ hi) (h2 : hi ≤ xs.length) : cutL xs (some lo) (some hi) = (xs.drop lo.toNat).take (hi.toNat - lo.toNat) := by
  unfold cutL
  have e1 : HT.sIx xs.length 0 (some lo) = lo.toNat := by
    show (if lo < 0 then (lo + (xs.length : Int)).toNat else min lo.toNat xs.length) = _
    rw [if_neg (by omega)]; omega
  have e2 : HT.sIx xs.length xs.length (some hi) = hi.toNat := by
    show (if hi < 0 then (hi + (xs.length : Int)).toNat else min hi.toNat xs.length) = _
    rw [if_neg (by omega)]; omega
  rw [e1, e2]
theorem low_LLs : ∀ c ∈ LLs, 97 ≤ c ∧ c ≤ 122 := by decide
def c1 (s k : Nat) : Nat := LLs.getD (s + 5 * k % 26) 0
theorem c1_nd : ∀ s : Nat, s < 26 → ((List.range 10).map (c1 s)).Nodup := by decide +kernel
theorem len_LLs : LLs.length = 52 := by decide
theorem names1 {s z a : Nat} (hs : s < 26) (hz : z < 9) (ha : a < z) : ∃ xs, n1 s z a = xs.map .str ∧ xs.length = 10 ∧ GoodNs xs := by
  have eh : (cutX s ((s : Int) + a)).cps.toList = (LLs.drop s).take a := by
    show (cutL LLs (some (s : Int)) (some ((s : Int) + a))).toArray.toList = _
    have h1 : ((s : Int)).toNat = s := by omega
    have h2 : ((s : Int) + a).toNat - s = a := by omega
    rw [List.toList_toArray, cut_mid LLs (by omega) (by omega) (by rw [len_LLs]; omega), h1, h2]
  have et : (cutX ((s : Int) + a + 1) ((s : Int) + z)).cps.toList = (LLs.drop (s + a + 1)).take (z - a - 1) := by
    show (cutL LLs (some ((s : Int) + a + 1)) (some ((s : Int) + z))).toArray.toList = _
    have h1 : ((s : Int) + a + 1).toNat = s + a + 1 := by omega
    have h2 : ((s : Int) + z).toNat - (s + a + 1) = z - a - 1 := by omega
    rw [List.toList_toArray, cut_mid LLs (by omega) (by omega) (by rw [len_LLs]; omega), h1, h2]
  let nm : Nat → Str := fun k => cutX s ((s : Int) + a) ++ ⟨#[c1 s k]⟩ ++ cutX ((s : Int) + a + 1) ((s : Int) + z)
  have tl : ∀ k, (nm k).cps.toList = (LLs.drop s).take a ++ [c1 s k] ++ (LLs.drop (s + a + 1)).take (z - a - 1) := fun k => by
    show (((cutX s ((s : Int) + a)).cps ++ #[c1 s k]) ++ (cutX ((s : Int) + a + 1) ((s : Int) + z)).cps).toList = _
    rw [Array.toList_append, Array.toList_append, eh, et]
  have ix : ∀ k, k < 10 → s + 5 * k % 26 < 52 := fun k hk => by omega
  refine ⟨(List.range 10).map nm, ?_, by simp, ?_, ?_⟩
  · unfold n1 rangeD
    have e10 : (10 : Nat) = 10 := rfl
    rw [List.map_map, List.map_map]
    refine List.map_congr_left fun k hk => ?_
    have hk := List.mem_range.mp hk
    show f1 s z a (.int (0 + (k : Int))) = .str (nm k)
    have ea : atI LLs ((s : Int) + 5 * (0 + (k : Int)) % 26) = some (c1 s k) := by
      have e : (s : Int) + 5 * (0 + (k : Int)) % 26 = ((s + 5 * k % 26 : Nat) : Int) := by omega
      rw [e]
      have h := ix k hk
      rw [atI_nat (v := c1 s k)]
      unfold c1
      rw [List.getD_eq_getElem?_getD, List.getElem?_eq_getElem (by rw [len_LLs]; exact h)]
      rfl
    show D.str (cutX s ((s : Int) + a) ++ ((atI LLs ((s : Int) + 5 * (0 + (k : Int)) % 26)).elim Str.empty fun c => ⟨#[c]⟩) ++ cutX ((s : Int) + a + 1) ((s : Int) + z)) = _
    rw [ea]
    rfl
  · have nd := c1_nd s hs
    rw [List.nodup_iff_pairwise_ne, List.pairwise_map] at nd ⊢
    refine nd.imp fun {i j} h e => h ?_
    have e2 : (nm i).cps.toList = (nm j).cps.toList := congrArg (fun x : Str => x.cps.toList) e
    rw [tl, tl] at e2
    have e3 := List.append_cancel_right e2
    have e4 := List.append_cancel_left e3
    exact (List.cons.inj e4).1
  · intro x hx
    obtain ⟨k, hk, rfl⟩ := List.mem_map.mp hx
    have hk := List.mem_range.mp hk
    have hl : (nm k).length = z := by
      show (nm k).cps.size = z
      rw [← Array.length_toList, tl]
      simp only [List.length_append, List.length_take, List.length_drop, len_LLs, List.length_singleton]
      omega
    unfold goodB
    rw [hl, decide_eq_true (by omega : 1 ≤ z), decide_eq_true (by omega : z ≤ 8), Bool.true_and, Bool.true_and, List.all_eq_true]
    intro c hc
    have : c ∈ LLs := by
      rw [tl] at hc
      rcases List.mem_append.mp hc with hc | hc
      · rcases List.mem_append.mp hc with hc | hc
        · exact List.mem_of_mem_drop (List.mem_of_mem_take hc)
        · cases List.mem_singleton.mp hc
          unfold c1
          rw [List.getD_eq_getElem?_getD, List.getElem?_eq_getElem (by rw [len_LLs]; exact ix k hk)]
          exact List.getElem_mem _
      · exact List.mem_of_mem_drop (List.mem_of_mem_take hc)
    obtain ⟨a1, a2⟩ := low_LLs c this
    rw [decide_eq_true a1, decide_eq_true a2]; rfl
theorem chk2 : ∀ s : Nat, s < 26 → chk (n2 s) = true := by decide +kernel
theorem chk3 : chk n3 = true := by decide +kernel

abbrev Nn (d : D) (m : Int) (s w z a : Option D) (ns h t u k : Option D) : DEnv := [some d, some (.int m), some (.str LL), s, w, z, a, ns, h, t, u, k]
theorem sat_ifT {c : MT} {m n : MS} {ρ : DEnv} {Q : Fl → DEnv → Prop} (h : c ρ = .ok true ρ) (k : Sat (m ρ) Q) : Sat (mIfS c m n ρ) Q := sat_ifS ⟨true, ρ, h, k⟩
theorem sat_ifF {c : MT} {m n : MS} {ρ : DEnv} {Q : Fl → DEnv → Prop} (h : c ρ = .ok false ρ) (k : Sat (n ρ) Q) : Sat (mIfS c m n ρ) Q := sat_ifS ⟨false, ρ, h, (show (if false = true then Sat (m ρ) Q else Sat (n ρ) Q) from by rw [if_neg Bool.false_ne_true]; exact k)⟩
theorem sat_skip {c : MT} {m n : MS} {ρ : DEnv} {Q : Fl → DEnv → Prop} (h : c ρ = .ok false ρ) (k : Sat (n ρ) Q) : Sat (mSeq (mIfS c m mNx) n ρ) Q := sat_seq (sat_ifF h (sat_of rfl ⟨rfl, k⟩))
abbrev mNamesTail : MS := mSeq (mSet 10 (mCall1 0 1 g__law_draw (mCons (mC (.int 10)) mNil)))
  (mSeq (mSet 7 (mOp2 addD (mV (mSl cutD (mV (mVar 7)) (mPart (mVar 10)) mNoPart)) (mV (mSl cutD (mV (mVar 7)) mNoPart (mPart (mVar 10))))))
  (mRet (mOp2 stepD (mV (mSl cutD (mV (mVar 7)) mNoPart (mPart (mVar 1)))) (mV (mOp2 ixD (mV (mLst (mCons (mC (.int 1)) (mCons (mOp1 negD (mV (mC (.int 1)))) mNil)))) (mV (mCall1 0 1 g__law_draw (mCons (mC (.int 2)) mNil))))))))
theorem tail_ok {d : D} {m : Int} {s w z a h t u k : Option D} {xs : List Str} (fd : Feed d) (h0 : 0 ≤ m) (h1 : m ≤ 10) (hx : xs.length = 10) (hg : GoodNs xs) :
    Sat (mNamesTail (Nn d m s w z a (some (.lst (xs.map .str))) h t u k)) fun f ρ => ∃ v d', f = .rt v ∧ ρ.take 1 = [some d'] ∧ Feed d' ∧ ∃ xs : List Str, v = .lst (xs.map .str) ∧ xs.length = m.toNat ∧ GoodNs xs := by
  refine sat_seq (sat_set (sat_draw (d := d) rfl fd rfl (by decide) (by decide) fun q d1 q0 q1 fd1 => ⟨rfl, ?_⟩))
  change Sat (mSeq _ _ (Nn d1 m s w z a (some (.lst (xs.map .str))) h t (some (.int q)) k)) _
  let ys := xs.drop q.toNat ++ xs.take q.toNat
  have pm : ys.Perm xs := List.perm_append_comm.trans (by rw [List.take_append_drop])
  have hy : ys.length = 10 := pm.length_eq.trans hx
  have e1 : cutL (xs.map D.str) (some q) none = (xs.drop q.toNat).map D.str := by rw [cut_from _ q0, List.map_drop]
  have e2 : cutL (xs.map D.str) none (some q) = (xs.take q.toNat).map D.str := by rw [cut_to _ q0, List.map_take]
  refine sat_seq (sat_set (sat_of (a := .lst (ys.map .str)) (ρ := Nn d1 m s w z a (some (.lst (xs.map .str))) h t (some (.int q)) k) (by
    have hl : (xs.drop q.toNat).length + (xs.take q.toNat).length ≤ 16777216 := by rw [List.length_drop, List.length_take]; omega
    have hl' : xs.length - q.toNat + min q.toNat xs.length ≤ 16777216 := by omega
    simp [e1, e2, hl', ys]) ⟨rfl, ?_⟩))
  change Sat (mRet _ (Nn d1 m s w z a (some (.lst (ys.map .str))) h t (some (.int q)) k)) _
  have e3 : cutL (ys.map D.str) none (some m) = (ys.take m.toNat).map D.str := by rw [cut_to _ h0, List.map_take]
  refine sat_ret (sat_op2r (d := .lst ((ys.take m.toNat).map .str)) (by simp [e3]) (sat_op2r (d := .lst [.int 1, .int (-1)]) (by simp [negD]) (sat_draw (d := d1) rfl fd1 rfl (by decide) (by decide) fun r d2 r0 r1 fd2 => ?_)))
  have hr : r = 0 ∨ r = 1 := by omega
  have gt : GoodNs (ys.take m.toNat) := (hg.perm pm).sub (List.take_sublist _ _)
  have lt : (ys.take m.toNat).length = m.toNat := by rw [List.length_take, hy]; omega
  rcases hr with rfl | rfl
  · exact ⟨.int 1, rfl, .lst ((ys.take m.toNat).map .str), rfl, _, d2, rfl, rfl, fd2, _, rfl, lt, gt⟩
  · exact ⟨.int (-1), rfl, .lst ((ys.take m.toNat).map .str).reverse, rfl, _, d2, rfl, rfl, fd2, (ys.take m.toNat).reverse, by rw [List.map_reverse], by rw [List.length_reverse]; exact lt, gt.perm (List.reverse_perm _)⟩
theorem ixL_eq {i : Int} (h0 : 0 ≤ i) (h1 : i < 52) : ixD (.str LL) (.int i) = some (ixL i) := by
  obtain ⟨c, _, e⟩ := ixS (x := LL) h0 (show i < 52 from h1)
  unfold ixL
  rw [e]; rfl
theorem names_ok {m : Int} (h0 : 0 ≤ m) (h1 : m ≤ 10) : FS g__law_names [.int m] fun v => ∃ xs : List Str, v = .lst (xs.map .str) ∧ xs.length = m.toNat ∧ GoodNs xs := by
  refine fs_run (m := m__law_names) (N := 12) fun d fd => ?_
  unfold m__law_names
  refine sat_seq (sat_set (sat_of (a := .str LL) (ρ := [some d, some (.int m)] ++ List.replicate 10 none) (by rw [← LL_eq]; rfl) ⟨rfl, ?_⟩))
  refine sat_seq (sat_set (sat_draw (d := d) rfl fd rfl (by decide) (by decide) fun s d1 s0 s1 fd1 => ⟨rfl, ?_⟩))
  refine sat_seq (sat_set (sat_draw (d := d1) rfl fd1 rfl (by decide) (by decide) fun w d2 w0 w1 fd2 => ⟨rfl, ?_⟩))
  refine sat_seq (sat_set (sat_op2r (d := .int 1) rfl (sat_draw (d := d2) rfl fd2 rfl (by decide) (by decide) fun z d3 z0 z1 fd3 => ⟨_, rfl, rfl, ?_⟩)))
  refine sat_seq (sat_set (sat_draw (d := d3) (n := 1 + z) rfl fd3 rfl (by omega) (by omega) fun a d4 a0 a1 fd4 => ⟨rfl, ?_⟩))
  obtain ⟨s, rfl⟩ := Int.eq_ofNat_of_zero_le s0
  obtain ⟨z, rfl⟩ := Int.eq_ofNat_of_zero_le z0
  obtain ⟨a, rfl⟩ := Int.eq_ofNat_of_zero_le a0
  have ez : (1 : Int) + (z : Int) = ((z + 1 : Nat) : Int) := by omega
  rw [ez] at a1 ⊢
  have hs : s < 26 := by omega
  have hz : z + 1 < 9 := by omega
  have ha : a < z + 1 := by omega
  generalize z + 1 = z' at a1 hz ha ⊢
  refine sat_seq (sat_set (sat_of (a := .lst n3) (ρ := Nn d4 m (some (.int s)) (some (.int w)) (some (.int z')) (some (.int a)) none none none none none) rfl ⟨rfl, ?_⟩))
  change Sat (mSeq _ _ (Nn d4 m (some (.int s)) (some (.int w)) (some (.int z')) (some (.int a)) (some (.lst n3)) none none none none)) _
  have test : ∀ (j : Int) (ns h t k : Option D), mTest (mOp2 eqD (mV (mVar 4)) (mV (mC (.int j)))) (Nn d4 m (some (.int s)) (some (.int w)) (some (.int z')) (some (.int a)) ns h t none k) = .ok (decide (w = j)) (Nn d4 m (some (.int s)) (some (.int w)) (some (.int z')) (some (.int a)) ns h t none k) := fun j ns h t k => by simp
  have hw : w = 0 ∨ w = 1 ∨ w = 2 ∨ w = 3 := by omega
  have ixe : ∀ i : Int, 0 ≤ i → i < 52 → ixD (.str LL) (.int i) = some (ixL i) := fun i p q => ixL_eq p q
  rcases hw with rfl | rfl | rfl | rfl
  · -- beginnings
    obtain ⟨xs, ex, lx, gx⟩ := chkE (chk0 s hs)
    refine sat_seq (sat_ifT (test 0 _ _ _ _) (sat_set (sat_of (a := .lst (n0 s)) (ρ := Nn d4 m (some (.int s)) (some (.int 0)) (some (.int z')) (some (.int a)) (some (.lst n3)) none none none none) ?_ ⟨rfl, ?_⟩)))
    · have lc := mLc_one (ma := mR1 (mCons (mC (.int 8)) mNil)) (elt := mSl cutD (mV (mVar 2)) (mPart (mVar 3)) (mPart (mOp2 addD (mV (mOp2 addD (mV (mVar 3)) (mV (mC (.int 1))))) (mV (mVar 11))))) (i := 11) (ρ := Nn d4 m (some (.int s)) (some (.int 0)) (some (.int z')) (some (.int a)) (some (.lst n3)) none none none none) (ds := rangeD 0 8) (f0 s) rfl (by rw [len_range]; decide) (by simp) (fun e me => by
        obtain ⟨i, _, rfl⟩ := mem_range me
        simp [f0]
        rfl)
      have i1 := ixe ((s : Int) + 9) (by omega) (by omega)
      have i2 := ixe ((s : Int) + 10) (by omega) (by omega)
      simp [lc, i1, i2, n0, len_range]
    · rw [ex]
      exact sat_skip (test 1 _ _ _ _) (sat_skip (test 2 _ _ _ _) (tail_ok fd4 h0 h1 lx gx))
  · -- alike but for a sign
    obtain ⟨xs, ex, lx, gx⟩ := names1 hs hz ha
    refine sat_skip (test 0 _ _ _ _) (sat_seq (sat_ifT (test 1 _ _ _ _) ?_))
    have le : (s : Int) + a ≤ 52 := by omega
    refine sat_seq (sat_set (sat_of (a := .str (cutX s ((s : Int) + a))) (ρ := Nn d4 m (some (.int s)) (some (.int 1)) (some (.int z')) (some (.int a)) (some (.lst n3)) none none none none) (by simp; rfl) ⟨rfl, ?_⟩))
    refine sat_seq (sat_set (sat_of (a := .str (cutX ((s : Int) + a + 1) ((s : Int) + z'))) (ρ := Nn d4 m (some (.int s)) (some (.int 1)) (some (.int z')) (some (.int a)) (some (.lst n3)) (some (.str (cutX s ((s : Int) + a)))) none none none) (by simp; rfl) ⟨rfl, ?_⟩))
    refine sat_set (sat_of (a := .lst (n1 s z' a)) (ρ := Nn d4 m (some (.int s)) (some (.int 1)) (some (.int z')) (some (.int a)) (some (.lst n3)) (some (.str (cutX s ((s : Int) + a)))) (some (.str (cutX ((s : Int) + a + 1) ((s : Int) + z')))) none none) ?_ ⟨rfl, ?_⟩)
    · refine mLc_one (ds := rangeD 0 10) (f1 s z' a) rfl (by rw [len_range]; decide) (by simp) (fun e me => ?_)
      obtain ⟨i, hi, rfl⟩ := mem_range me
      have mo : mulOk 5 (0 + (i : Int)) = true := mulOkL (by decide)
      have mo' : mulOk 5 (i : Int) = true := mulOkL (by decide)
      have bd : (s : Int) + 5 * (i : Int) % 26 < 52 := by omega
      obtain ⟨c, e1, _⟩ := atI_in (xs := LLs) (i := (s : Int) + 5 * (i : Int) % 26) (by omega) (by rw [len_LLs]; exact bd)
      have e2 : ixD (.str LL) (.int ((s : Int) + 5 * (i : Int) % 26)) = some (.str ⟨#[c]⟩) := by
        show (atI LLs _).bind _ = _
        rw [e1]; rfl
      have lh : ∀ lo hi : Int, (cutX lo hi).length ≤ 52 := fun lo hi => by
        show (cutL LLs (some lo) (some hi)).toArray.size ≤ 52
        rw [List.size_toArray]
        exact Nat.le_trans (cut_len _ _ _) (Nat.le_of_eq len_LLs)
      have l1 := lh s ((s : Int) + a)
      have l2 := lh ((s : Int) + a + 1) ((s : Int) + z')
      have l3 : (cutX s ((s : Int) + a)).length + (⟨#[c]⟩ : Str).length ≤ 16777216 := by
        have : (⟨#[c]⟩ : Str).length = 1 := rfl
        omega
      have l4 : (cutX s ((s : Int) + a) ++ (⟨#[c]⟩ : Str)).length + (cutX ((s : Int) + a + 1) ((s : Int) + z')).length ≤ 16777216 := by
        have : (⟨#[c]⟩ : Str).length = 1 := rfl
        rw [str_len_append]; omega
      simp [mo, mo', e2, l3, l4, f1, e1]
    · show Sat (mSeq _ _ (Nn d4 m (some (.int s)) (some (.int 1)) (some (.int z')) (some (.int a)) (some (.lst (n1 s z' a))) (some (.str (cutX s ((s : Int) + a)))) (some (.str (cutX ((s : Int) + a + 1) ((s : Int) + z')))) none none)) _
      rw [ex]
      exact sat_skip (test 2 _ _ _ _) (tail_ok fd4 h0 h1 lx gx)
  · -- parts of all lengths
    obtain ⟨xs, ex, lx, gx⟩ := chkE (chk2 s hs)
    refine sat_skip (test 0 _ _ _ _) (sat_skip (test 1 _ _ _ _) (sat_seq (sat_ifT (test 2 _ _ _ _) (sat_set (sat_of (a := .lst (n2 s)) (ρ := Nn d4 m (some (.int s)) (some (.int 2)) (some (.int z')) (some (.int a)) (some (.lst n3)) none none none none) ?_ ⟨rfl, ?_⟩)))))
    · refine mLc_one (ds := rangeD 0 10) (f2 s) rfl (by rw [len_range]; decide) (by simp) (fun e me => ?_)
      obtain ⟨i, hi, rfl⟩ := mem_range me
      have mo' : mulOk 3 (i : Int) = true := mulOkL (by decide)
      simp [mo', f2]
      rfl
    · rw [ex]
      exact tail_ok fd4 h0 h1 lx gx
  · obtain ⟨xs, ex, lx, gx⟩ := chkE chk3
    rw [ex]
    exact sat_skip (test 0 _ _ _ _) (sat_skip (test 1 _ _ _ _) (sat_skip (test 2 _ _ _ _) (tail_ok fd4 h0 h1 lx gx)))
theorem sat_mtL {i : Nat} {f : List D → List D → Option (D × List D)} {args : MA} {ρ : DEnv} {ds0 : List D} {Q : D → DEnv → Prop} (h0 : ρ[i]? = some (some (.lst ds0)))
    (ha : Sat (args ρ) fun es ρ1 => ∃ ds z ds', ρ1[i]? = some (some (.lst ds)) ∧ f ds es = some (z, ds') ∧ Q z (ρ1.set i (some (.lst ds')))) : Sat (mMtL i f args ρ) Q := by
  obtain ⟨es, ρ1, e1, ds, z, ds', e2, e3, q⟩ := ha
  refine ⟨z, _, ?_, q⟩
  rw [e_mtL]
  simp only [e_own, h0, Option.bind_some, id, e1, R.bind_ok, e2, e3]
/-! ### equality of plain data -/
mutual
def D.pln : D → Bool
  | .int _ => true | .str _ => true | .tup xs => plnL xs | .lst xs => plnL xs
  | _ => false
def plnL : List D → Bool
  | [] => true
  | d :: ds => d.pln && plnL ds
end
mutual
theorem pln_py : ∀ d : D, d.pln = true → d.py = true
  | .int _, _ => by rw [D.py]
  | .str _, _ => by rw [D.py]
  | .tup xs, h => by rw [D.pln] at h; rw [D.py]; exact plnL_py xs h
  | .lst xs, h => by rw [D.pln] at h; rw [D.py]; exact plnL_py xs h
  | .non, h => by rw [D.pln] at h <;> first | cases h | (intros; contradiction)
  | .bl _, h => by rw [D.pln] at h <;> first | cases h | (intros; contradiction)
  | .dK _, h => by rw [D.pln] at h <;> first | cases h | (intros; contradiction)
  | .dT _, h => by rw [D.pln] at h <;> first | cases h | (intros; contradiction)
  | .ob _ _, h => by rw [D.pln] at h <;> first | cases h | (intros; contradiction)
  | .fin _ _, h => by rw [D.pln] at h <;> first | cases h | (intros; contradiction)
  | .scr _, h => by rw [D.pln] at h <;> first | cases h | (intros; contradiction)
  | .rp _, h => by rw [D.pln] at h <;> first | cases h | (intros; contradiction)
  | .ty _, h => by rw [D.pln] at h <;> first | cases h | (intros; contradiction)
theorem plnL_py : ∀ xs : List D, plnL xs = true → pyL xs = true
  | [], _ => by rw [pyL]
  | d :: ds, h => by
    rw [plnL, Bool.and_eq_true] at h
    rw [pyL, Bool.and_eq_true]
    exact ⟨pln_py d h.1, plnL_py ds h.2⟩
end
mutual
theorem eqv_iff : ∀ d e : D, d.pln = true → e.pln = true → (PyData.eqv d.toPy e.toPy = true ↔ d = e)
  | .int i, .int j, _, _ => by rw [D.toPy, D.toPy, PyData.eqv]; simp
  | .str i, .str j, _, _ => by rw [D.toPy, D.toPy, PyData.eqv]; simp
  | .int i, .str j, _, _ => by rw [D.toPy, D.toPy, PyData.eqv]; simp
  | .str i, .int j, _, _ => by rw [D.toPy, D.toPy, PyData.eqv]; simp
  | .int i, .tup j, _, _ => by rw [D.toPy, D.toPy, PyData.eqv]; simp
  | .int i, .lst j, _, _ => by rw [D.toPy, D.toPy, PyData.eqv]; simp
  | .str i, .tup j, _, _ => by rw [D.toPy, D.toPy, PyData.eqv]; simp
  | .str i, .lst j, _, _ => by rw [D.toPy, D.toPy, PyData.eqv]; simp
  | .tup i, .int j, _, _ => by rw [D.toPy, D.toPy, PyData.eqv]; simp
  | .tup i, .str j, _, _ => by rw [D.toPy, D.toPy, PyData.eqv]; simp
  | .lst i, .int j, _, _ => by rw [D.toPy, D.toPy, PyData.eqv]; simp
  | .lst i, .str j, _, _ => by rw [D.toPy, D.toPy, PyData.eqv]; simp
  | .tup i, .lst j, _, _ => by rw [D.toPy, D.toPy, PyData.eqv]; simp
  | .lst i, .tup j, _, _ => by rw [D.toPy, D.toPy, PyData.eqv]; simp
  | .tup i, .tup j, h, k => by
    rw [D.pln] at h k
    rw [D.toPy, D.toPy, PyData.eqv, eqvL_iff i j h k]
    constructor
    · rintro rfl; rfl
    · intro e; exact D.tup.inj e
  | .lst i, .lst j, h, k => by
    rw [D.pln] at h k
    rw [D.toPy, D.toPy, PyData.eqv, eqvL_iff i j h k]
    constructor
    · rintro rfl; rfl
    · intro e; exact D.lst.inj e
  | .non, _, h, _ => by simp [D.pln] at h
  | .bl _, _, h, _ => by simp [D.pln] at h
  | .dK _, _, h, _ => by simp [D.pln] at h
  | .dT _, _, h, _ => by simp [D.pln] at h
  | .ob _ _, _, h, _ => by simp [D.pln] at h
  | .fin _ _, _, h, _ => by simp [D.pln] at h
  | .scr _, _, h, _ => by simp [D.pln] at h
  | .rp _, _, h, _ => by simp [D.pln] at h
  | .ty _, _, h, _ => by simp [D.pln] at h
  | _, .non, _, h => by simp [D.pln] at h
  | _, .bl _, _, h => by simp [D.pln] at h
  | _, .dK _, _, h => by simp [D.pln] at h
  | _, .dT _, _, h => by simp [D.pln] at h
  | _, .ob _ _, _, h => by simp [D.pln] at h
  | _, .fin _ _, _, h => by simp [D.pln] at h
  | _, .scr _, _, h => by simp [D.pln] at h
  | _, .rp _, _, h => by simp [D.pln] at h
  | _, .ty _, _, h => by simp [D.pln] at h
theorem eqvL_iff : ∀ xs ys : List D, plnL xs = true → plnL ys = true → (PyData.eqvAll (toPyL xs) (toPyL ys) = true ↔ xs = ys)
  | [], [], _, _ => by rw [toPyL, PyData.eqvAll]; simp
  | [], y :: ys, _, _ => by rw [toPyL, toPyL, PyData.eqvAll]; simp
  | x :: xs, [], _, _ => by rw [toPyL, toPyL, PyData.eqvAll]; simp
  | x :: xs, y :: ys, h, k => by
    rw [plnL, Bool.and_eq_true] at h k
    rw [toPyL, toPyL, PyData.eqvAll, Bool.and_eq_true, eqv_iff x y h.1 k.1, eqvL_iff xs ys h.2 k.2]
    simp
end
theorem depthAll_le {k : Nat} : ∀ xs : List D, (∀ d ∈ xs, d.toPy.depth ≤ k) → PyData.depthAll (toPyL xs) ≤ k
  | [], _ => by rw [toPyL, PyData.depthAll]; exact Nat.zero_le _
  | d :: ds, h => by
    rw [toPyL, PyData.depthAll]
    exact Nat.max_le.mpr ⟨h d List.mem_cons_self, depthAll_le ds fun x m => h x (List.mem_cons_of_mem _ m)⟩
theorem dep_tup {k : Nat} {xs : List D} (h : ∀ d ∈ xs, d.toPy.depth ≤ k) : (D.tup xs).toPy.depth ≤ k + 1 := by
  rw [D.toPy, PyData.depth]; exact Nat.add_le_add_right (depthAll_le xs h) 1
theorem dep_lst {k : Nat} {xs : List D} (h : ∀ d ∈ xs, d.toPy.depth ≤ k) : (D.lst xs).toPy.depth ≤ k + 1 := by
  rw [D.toPy, PyData.depth]; exact Nat.add_le_add_right (depthAll_le xs h) 1
theorem dep_str (x : Str) : (D.str x).toPy.depth = 0 := by rw [D.toPy, PyData.depth]
theorem plnL_all : ∀ {xs : List D}, (∀ d ∈ xs, d.pln = true) → plnL xs = true
  | [], _ => by rw [plnL]
  | d :: ds, h => by rw [plnL, h d List.mem_cons_self, plnL_all fun x m => h x (List.mem_cons_of_mem _ m)]; rfl
theorem pln_str (x : Str) : (D.str x).pln = true := by rw [D.pln]
theorem pln_lst {xs : List D} (h : plnL xs = true) : (D.lst xs).pln = true := by rw [D.pln]; exact h
theorem pln_tup {xs : List D} (h : plnL xs = true) : (D.tup xs).pln = true := by rw [D.pln]; exact h
theorem eqB_pln {d e : D} (hd : d.pln = true) (he : e.pln = true) (hm : min d.toPy.depth e.toPy.depth ≤ 60) : ∃ b, eqB d e = some b ∧ (b = true ↔ d = e) := by
  have ok : eqOk d e = true := by
    unfold eqOk
    rw [pln_py d hd, pln_py e he, decide_eq_true hm]; rfl
  refine ⟨eqv d e, ?_, eqv_iff d e hd he⟩
  have key : ∀ d e : D, eqB d e = (if eqOk d e = true then some (eqv d e) else none) → eqOk d e = true → eqB d e = some (eqv d e) := fun d e h k => by rw [h, if_pos k]
  cases d <;> cases e <;> first | (exact key _ _ rfl ok) | (simp [D.pln] at hd he)
theorem eqD_pln {d e : D} (hd : d.pln = true) (he : e.pln = true) (hm : min d.toPy.depth e.toPy.depth ≤ 60) : ∃ b, eqD d e = some (.bl b) ∧ (b = true ↔ d = e) := by
  obtain ⟨b, e1, e2⟩ := eqB_pln hd he hm
  exact ⟨b, by unfold eqD; rw [e1]; rfl, e2⟩
@[simp] theorem d_eqS (x y : Str) : eqD (.str x) (.str y) = some (.bl (decide (x = y))) := by
  obtain ⟨b, e1, e2⟩ := eqD_pln (pln_str x) (pln_str y) (by rw [dep_str]; exact Nat.le_trans (Nat.min_le_left _ _) (Nat.zero_le _))
  rw [e1]
  by_cases h : x = y
  · rw [e2.mpr (by rw [h]), decide_eq_true h]
  · have : b = false := by
      cases b with
      | false => rfl
      | true => exact absurd (D.str.inj (e2.mp rfl)) h
    rw [this, decide_eq_false h]
/-! ### while by a measure -/
theorem wtL_le {k : Nat} : ∀ {xs : List D}, (∀ d ∈ xs, d.wt ≤ k) → wtL xs ≤ k * xs.length
  | [], _ => by rw [wtL]; exact Nat.zero_le _
  | d :: ds, h => by
    rw [wtL, List.length_cons, Nat.mul_succ]
    have h1 := h d List.mem_cons_self
    have h2 := wtL_le fun x m => h x (List.mem_cons_of_mem _ m)
    omega
theorem show_str (x : Str) : (D.str x).toPy.showable = true := by rw [D.toPy, PyData.showable]
theorem showL : ∀ {xs : List D}, (∀ d ∈ xs, d.toPy.showable = true) → PyData.showableAll (toPyL xs) = true
  | [], _ => by rw [toPyL, PyData.showableAll]
  | d :: ds, h => by rw [toPyL, PyData.showableAll, h d List.mem_cons_self, showL fun x m => h x (List.mem_cons_of_mem _ m)]; rfl
theorem show_tup {xs : List D} (h : ∀ d ∈ xs, d.toPy.showable = true) : (D.tup xs).toPy.showable = true := by rw [D.toPy, PyData.showable]; exact showL h
theorem goodE {x : Str} (h : goodB x = true) : 1 ≤ x.length ∧ x.length ≤ 8 ∧ ∀ c ∈ x.cps.toList, 97 ≤ c ∧ c ≤ 122 := by
  unfold goodB at h
  rw [Bool.and_eq_true, Bool.and_eq_true, decide_eq_true_eq, decide_eq_true_eq, List.all_eq_true] at h
  refine ⟨h.1.1, h.1.2, fun c m => ?_⟩
  have := h.2 c m
  rw [Bool.and_eq_true, decide_eq_true_eq, decide_eq_true_eq] at this
  exact this
theorem fill_one {ρ : DEnv} {i : Nat} (hi : i < ρ.length) : fillD ρ [i] (wipeD ρ [i]) = ρ := by
  show (ρ.set i none).set i ((ρ[i]?).bind id) = ρ
  rw [List.set_set]
  apply List.ext_getElem?
  intro j
  by_cases e : i = j
  · subst e
    rw [List.getElem?_set_self hi, List.getElem?_eq_getElem hi]
    cases ρ[i] <;> rfl
  · rw [List.getElem?_set_ne e]
/-- a comprehension over things that stand for others -/
theorem mLc_map {α : Type} {ma : MA} {k : D → DEnv → Option DEnv} {test : MT} {elt : ME} {vs : List Nat} {ρ : DEnv} {R : List α} (g : α → D) (p : α → Bool) (f : α → D) (hma : ma ρ = .ok (R.map g) ρ) (hlen : R.length ≤ 16777216)
    (hstep : ∀ d ∈ R, ∃ ρ1, k (g d) (wipeD ρ vs) = some ρ1 ∧ wipeD ρ1 vs = wipeD ρ vs ∧ test ρ1 = .ok (p d) ρ1 ∧ (p d = true → elt ρ1 = .ok (f d) ρ1)) (hfill : fillD ρ vs (wipeD ρ vs) = ρ) :
    mLc ma k test elt vs ρ = .ok (.lst ((R.filter p).map f)) ρ := by
  have go : ∀ (l : List α) (acc : List D) (ρ0 : DEnv), (∀ d ∈ l, d ∈ R) → acc.length + l.length ≤ 16777216 → wipeD ρ0 vs = wipeD ρ vs → ∃ ρ', mLcGo k test elt vs (l.map g) acc ρ0 = .ok (acc ++ (l.filter p).map f) ρ' ∧ wipeD ρ' vs = wipeD ρ vs := by
    intro l
    induction l with
    | nil => intro acc ρ0 _ _ h; exact ⟨ρ0, by simp [mLcGo], h⟩
    | cons d l ih =>
      intro acc ρ0 hm hl h
      obtain ⟨ρ1, e1, e2, e3, e4⟩ := hstep d (hm d List.mem_cons_self)
      rw [List.length_cons] at hl
      rw [List.map_cons]
      unfold mLcGo
      rw [h, e1]
      dsimp only
      rw [e3, VL.R.bindN_ok]
      cases hp : p d with
      | false =>
        rw [if_neg Bool.false_ne_true]
        obtain ⟨ρ', e5, e6⟩ := ih acc ρ1 (fun x m => hm x (List.mem_cons_of_mem _ m)) (by omega) e2
        refine ⟨ρ', ?_, e6⟩
        rw [e5, List.filter_cons_of_neg (by rw [hp]; exact Bool.false_ne_true)]
      | true =>
        rw [if_pos rfl, e4 hp, VL.R.bindN_ok, if_pos (by omega)]
        obtain ⟨ρ', e5, e6⟩ := ih (acc ++ [f d]) ρ1 (fun x m => hm x (List.mem_cons_of_mem _ m)) (by rw [List.length_append, List.length_singleton]; omega) e2
        refine ⟨ρ', ?_, e6⟩
        rw [e5, List.filter_cons_of_pos hp, List.map_cons, List.append_assoc]
        rfl
  obtain ⟨ρ', e1, e2⟩ := go R [] ρ (fun _ m => m) (by simpa using hlen) rfl
  unfold mLc
  rw [hma, VL.R.bind_ok, e1, VL.R.bind_ok, e2, hfill]
  rfl
/-- .. of one name -/
theorem lc_var {α : Type} {ma : MA} {test : MT} {elt : ME} {i : Nat} {ρ : DEnv} {R : List α} (g : α → D) (p : α → Bool) (f : α → D) (hma : ma ρ = .ok (R.map g) ρ) (hlen : R.length ≤ 16777216) (hi : i < ρ.length)
    (ht : ∀ a ∈ R, test (ρ.set i (some (g a))) = .ok (p a) (ρ.set i (some (g a)))) (he : ∀ a ∈ R, p a = true → elt (ρ.set i (some (g a))) = .ok (f a) (ρ.set i (some (g a)))) : mLc ma (kName i) test elt [i] ρ = .ok (.lst ((R.filter p).map f)) ρ :=
  mLc_map g p f hma hlen (fun a ha => ⟨ρ.set i (some (g a)), by
    show some ((ρ.set i none).set i _) = _
    rw [List.set_set], by
    show (ρ.set i _).set i none = ρ.set i none
    rw [List.set_set], ht a ha, he a ha⟩) (fill_one hi)
theorem lc_vmap {α : Type} {ma : MA} {elt : ME} {i : Nat} {ρ : DEnv} {R : List α} (g : α → D) (f : α → D) (hma : ma ρ = .ok (R.map g) ρ) (hlen : R.length ≤ 16777216) (hi : i < ρ.length)
    (he : ∀ a ∈ R, elt (ρ.set i (some (g a))) = .ok (f a) (ρ.set i (some (g a)))) : mLc ma (kName i) mYes elt [i] ρ = .ok (.lst (R.map f)) ρ := by
  have := lc_var (elt := elt) (test := mYes) g (fun _ => true) f hma hlen hi (fun _ _ => rfl) fun a m _ => he a m
  rwa [List.filter_eq_self.mpr fun _ _ => rfl] at this
theorem op2_val {f : D → D → Option D} {ma mb : ME} {ρ : DEnv} {d e r : D} (ha : ma ρ = .ok d ρ) (hb : mb ρ = .ok e ρ) (h : f d e = some r) : mOp2 f (mV ma) (mV mb) ρ = .ok r ρ := by
  rw [e_op2, e_V, ha, R.bind_ok, R.bind_ok, e_V, hb]
  simp only [R.bind_ok, e_getv, Option.bind_some, h, R.of_some]
theorem call0_2 {g : List D → R D} {m n : ME} {ρ ρ' : DEnv} {d e v : D} (h : m ρ = .ok d ρ) (h2 : n ρ = .ok e ρ) (h3 : g [d, e] = .ok v ρ') : mCall0 2 g (mCons m (mCons n mNil)) ρ = .ok v ρ := by
  rw [e_call0, e_cons, h, R.bind_ok, e_cons, h2, R.bind_ok, e_nil, R.bind_ok, R.bind_ok, R.bind_ok, if_pos (show ([d, e] : List D).length = 2 from rfl), h3]
theorem test_val {m : ME} {ρ : DEnv} {k : Bool} (h : m ρ = .ok (.bl k) ρ) : mTest m ρ = .ok k ρ := by
  rw [e_test, h, R.bind_ok, e_asB]
theorem len_opS {f : D → Option D} {m : ME} {ρ : DEnv} {d v : D} (h : m ρ = .ok d ρ) (e : f d = some v := by rfl) : mOpN (one f) (mOCons (mV m) mONil) ρ = .ok v ρ := by
  rw [e_opN, e_oCons, e_V, h]
  simp only [R.bind_ok, e_oNil, e_getA, e_getA0, e_getv, Option.bind_some, e_one, e, R.of_some]
theorem sat_op1 {f : D → Option D} {m : ME} {ρ : DEnv} {Q : D → DEnv → Prop} (h : Sat (m ρ) fun d ρ1 => ∃ v, f d = some v ∧ Q v ρ1) : Sat (mOp1 f (mV m) ρ) Q := by
  obtain ⟨d, ρ1, e, v, e2, q⟩ := h
  refine ⟨v, ρ1, ?_, q⟩
  rw [e_op1, e_V, e, R.bind_ok, R.bind_ok]
  simp only [e_getv, Option.bind_some, e2, R.of_some]
theorem sat_op2l {f : D → D → Option D} {m n : ME} {ρ : DEnv} {Q : D → DEnv → Prop} (h : Sat (m ρ) fun d ρ1 => Sat (n ρ1) fun e ρ2 => ∃ v, f d e = some v ∧ Q v ρ2) : Sat (mOp2 f (mV m) (mV n) ρ) Q := by
  obtain ⟨d, ρ1, e, d2, ρ2, e2, v, e3, q⟩ := h
  refine ⟨v, ρ2, ?_, q⟩
  rw [e_op2, e_V, e, R.bind_ok, R.bind_ok, e_V, e2]
  simp only [R.bind_ok, e_getv, Option.bind_some, e3, R.of_some]
theorem repr_of {d : D} (h1 : d.pln = true) (h2 : d.toPy.showable = true) (h3 : d.toPy.depth ≤ 60) (h4 : d.wt ≤ 16777216) : reprD d = some (.rp d.toPy) := by
  have ok : reprOk d = true := by
    unfold reprOk
    rw [pln_py _ h1, h2, decide_eq_true (Nat.le_trans h3 (by decide)), decide_eq_true h4]; rfl
  unfold reprD
  rw [if_pos ok]
structure Rp (d : D) (k w : Nat) : Prop where
  pl : d.pln = true
  sh : d.toPy.showable = true
  dp : d.toPy.depth ≤ k
  wt : d.wt ≤ w
theorem Rp.mono {d : D} {k w k' w' : Nat} (h : Rp d k w) (hk : k ≤ k') (hw : w ≤ w') : Rp d k' w' := ⟨h.pl, h.sh, Nat.le_trans h.dp hk, Nat.le_trans h.wt hw⟩
theorem Rp.repr {d : D} {k w : Nat} (h : Rp d k w) (hk : k ≤ 60) (hw : w ≤ 16777216) : reprD d = some (.rp d.toPy) := repr_of h.pl h.sh (Nat.le_trans h.dp hk) (Nat.le_trans h.wt hw)
theorem show_lst {xs : List D} (h : ∀ d ∈ xs, d.toPy.showable = true) : (D.lst xs).toPy.showable = true := by rw [D.toPy, PyData.showable]; exact showL h
theorem Rp.tup {xs : List D} {k w : Nat} (h : ∀ d ∈ xs, Rp d k w) : Rp (.tup xs) (k + 1) (w * xs.length + 2 * xs.length + 3) :=
  ⟨pln_tup (plnL_all fun d m => (h d m).pl), show_tup fun d m => (h d m).sh, dep_tup fun d m => (h d m).dp, by
    rw [D.wt]
    have := wtL_le (xs := xs) (k := w) fun d m => (h d m).wt
    omega⟩
theorem Rp.lst {xs : List D} {k w : Nat} (h : ∀ d ∈ xs, Rp d k w) : Rp (.lst xs) (k + 1) (w * xs.length + 2 * xs.length + 3) :=
  ⟨pln_lst (plnL_all fun d m => (h d m).pl), show_lst fun d m => (h d m).sh, dep_lst fun d m => (h d m).dp, by
    rw [D.wt]
    have := wtL_le (xs := xs) (k := w) fun d m => (h d m).wt
    omega⟩
theorem Rp.str {x : Str} (h : goodB x = true) : Rp (.str x) 0 82 := ⟨pln_str x, show_str x, by rw [dep_str]; exact Nat.le_refl _, by rw [D.wt]; have := (goodE h).2.1; omega⟩
theorem Rp.names {xs : List Str} (h : ∀ x ∈ xs, goodB x = true) (lx : xs.length ≤ 20) : Rp (.tup (xs.map .str)) 1 1700 :=
  (Rp.tup (k := 0) (w := 82) fun d m => by obtain ⟨x, mx, rfl⟩ := List.mem_map.mp m; exact .str (h x mx)).mono (Nat.le_refl _) (by rw [List.length_map]; omega)
/-! ### each refusal of its own class alone -/
theorem own_0 (fs : List (Str × D)) : g__law_own [.exv "Clash" fs, .int 0] = .ok (.bl true) [] := by kernel_rfl
theorem own_1 (fs : List (Str × D)) : g__law_own [.exv "NoBound" fs, .int 1] = .ok (.bl true) [] := by kernel_rfl
theorem own_2 (fs : List (Str × D)) : g__law_own [.exv "NoCover" fs, .int 2] = .ok (.bl true) [] := by kernel_rfl
theorem own_3 (fs : List (Str × D)) : g__law_own [.exv "NoHalf" fs, .int 3] = .ok (.bl true) [] := by kernel_rfl
theorem own_4 (fs : List (Str × D)) : g__law_own [.exv "NoJoin" fs, .int 4] = .ok (.bl true) [] := by kernel_rfl
theorem own_5 (fs : List (Str × D)) : g__law_own [.exv "NoMore" fs, .int 5] = .ok (.bl true) [] := by kernel_rfl
theorem own_6 (fs : List (Str × D)) : g__law_own [.exv "NoName" fs, .int 6] = .ok (.bl true) [] := by kernel_rfl
theorem own_7 (fs : List (Str × D)) : g__law_own [.exv "NoOrder" fs, .int 7] = .ok (.bl true) [] := by kernel_rfl
theorem own_8 (fs : List (Str × D)) : g__law_own [.exv "NoPaper" fs, .int 8] = .ok (.bl true) [] := by kernel_rfl
theorem own_9 (fs : List (Str × D)) : g__law_own [.exv "NoPlace" fs, .int 9] = .ok (.bl true) [] := by kernel_rfl
theorem own_10 (fs : List (Str × D)) : g__law_own [.exv "NoPlan" fs, .int 10] = .ok (.bl true) [] := by kernel_rfl
theorem own_11 (fs : List (Str × D)) : g__law_own [.exv "NoSaying" fs, .int 11] = .ok (.bl true) [] := by kernel_rfl
theorem own_12 (fs : List (Str × D)) : g__law_own [.exv "NoText" fs, .int 12] = .ok (.bl true) [] := by kernel_rfl
theorem own_13 (fs : List (Str × D)) : g__law_own [.exv "TooMany" fs, .int 13] = .ok (.bl true) [] := by kernel_rfl
theorem op2s_val {f : D → D → Option D} {i : Nat} {mb : ME} {ρ : DEnv} {d e r : D} (ha : ρ[i]? = some (some d)) (hb : mb ρ = .ok e ρ) (h : f d e = some r) : mOp2 f (mS i) (mV mb) ρ = .ok r ρ := by
  rw [e_op2, e_S]
  simp only [R.bind_ok, e_V, hb, e_gets, ha, Option.bind_some, id, e_getv, h, R.of_some]
/-! ### the things told -/
theorem Rp.wordS {x : Str} (h : x.length ≤ 8) : Rp (.str x) 0 82 := ⟨pln_str x, show_str x, by rw [dep_str]; exact Nat.le_refl _, by rw [D.wt]; omega⟩
theorem Rp.intZ {n : Int} (h : -1000 ≤ n) (h2 : n ≤ 1000000000000000000000) : Rp (.int n) 0 2000 := by
  refine ⟨by rw [D.pln], ?_, ?_, ?_⟩
  · rw [D.toPy, PyData.showable, decide_eq_true_eq]
    by_cases z : n.natAbs = 0
    · rw [z]; decide
    · exact Nat.lt_trans ((Nat.log2_lt z).mpr (Nat.lt_of_le_of_lt (show n.natAbs ≤ 1000000000000000000000 by omega) (by decide : 1000000000000000000000 < 2 ^ 80))) (by decide)
  · rw [D.toPy, PyData.depth]; exact Nat.le_refl _
  · rw [D.wt]; exact Nat.le_refl _
abbrev xs21 (w n y : D) : List D := [.exv "Clash" [("way", y)], .exv "NoBound" [("row", n), ("word", w)], .exv "NoCover" [], .exv "NoHalf" [("number", n), ("word", w)], .exv "NoJoin" [("word", w)], .exv "NoMore" [], .exv "NoName" [("name", w)],
  .exv "NoOrder" [], .exv "NoPaper" [("row", n), ("word", w)], .exv "NoPlace" [("number", n)], .exv "NoPlan" [("path", y), ("word", w)], .exv "NoSaying" [("number", n)], .exv "NoText" [("row", n)], .exv "TooMany" [("word", w)]]
theorem own_at (w n y : D) : ∀ k : Nat, k < 14 → ∃ d, ixD (.lst (xs21 w n y)) (.int (0 + (k : Int))) = some d ∧ g__law_own [d, .int (0 + (k : Int))] = .ok (.bl true) []
  | 0, _ => ⟨_, rfl, own_0 _⟩
  | 1, _ => ⟨_, rfl, own_1 _⟩
  | 2, _ => ⟨_, rfl, own_2 _⟩
  | 3, _ => ⟨_, rfl, own_3 _⟩
  | 4, _ => ⟨_, rfl, own_4 _⟩
  | 5, _ => ⟨_, rfl, own_5 _⟩
  | 6, _ => ⟨_, rfl, own_6 _⟩
  | 7, _ => ⟨_, rfl, own_7 _⟩
  | 8, _ => ⟨_, rfl, own_8 _⟩
  | 9, _ => ⟨_, rfl, own_9 _⟩
  | 10, _ => ⟨_, rfl, own_10 _⟩
  | 11, _ => ⟨_, rfl, own_11 _⟩
  | 12, _ => ⟨_, rfl, own_12 _⟩
  | 13, _ => ⟨_, rfl, own_13 _⟩
  | k + 14, h => absurd h (by omega)
abbrev Lw (sc d k w n y b h p q s t a : Option D) : DEnv := [sc, d, k, w, n, y, b, h, p, q, s, t, a]
theorem law_holds (ms : List Int) (hl : ms.length ≤ 63) : ∃ ρ, g_law [.scr ms] = .ok (.bl true) ρ := by
  obtain ⟨d0, ρ0, e0, fd0⟩ := feed_ok ms hl
  refine law_of (m := m_law) (N := 13) ?_
  unfold m_law
  refine sat_seq (sat_set (sat_of (a := d0) (ρ := Lw (some (.scr ms)) none none none none none none none none none none none none) (by simp [e0]) ⟨rfl, ?_⟩))
  change Sat (mSeq _ _ (Lw (some (.scr ms)) (some d0) none none none none none none none none none none none)) _
  refine sat_seq (sat_loop (ds := rangeD 0 2) rfl (sat_for (rangeD 0 2) (I := fun _ ρ => ∃ d k w n y b h p q s t a, Feed d ∧ ρ = Lw (some (.scr ms)) (some d) k w n y b h p q s t a) ?_ _ ⟨d0, _, _, _, _, _, _, _, _, _, _, _, fd0, rfl⟩ ?_))
  · rintro i z ρ hz ⟨d, k, w, n, y, b, h, p, q, s, t, a, fd, rfl⟩
    refine ⟨Lw (some (.scr ms)) (some d) (some z) w n y b h p q s t a, rfl, ?_⟩
    refine sat_seq (sat_set (sat_op2r (d := .lst [.str "tale", .str "half", .str "orders", .str ""]) rfl (sat_draw (d := d) (n := 4) rfl fd rfl (by decide) (by decide) fun r d1 h0 h1 fd1 => ?_)))
    obtain ⟨W, hW, lW⟩ : ∃ W : Str, ixD (.lst [.str "tale", .str "half", .str "orders", .str ""]) (.int r) = some (.str W) ∧ W.length ≤ 8 := by
      have : r = 0 ∨ r = 1 ∨ r = 2 ∨ r = 3 := by omega
      rcases this with rfl | rfl | rfl | rfl
      · exact ⟨"tale", rfl, by decide⟩
      · exact ⟨"half", rfl, by decide⟩
      · exact ⟨"orders", rfl, by decide⟩
      · exact ⟨"", rfl, by decide⟩
    refine ⟨.str W, hW, rfl, ?_⟩
    change Sat (mSeq _ _ (Lw (some (.scr ms)) (some d1) (some z) (some (.str W)) n y b h p q s t a)) _
    refine sat_seq (sat_set (sat_op2l (sat_draw (d := d1) (n := 100000000000000000000) rfl fd1 (by simp [d_pow]) (by decide) (by decide) fun r2 d2 h20 h21 fd2 => sat_of (a := .int 5) rfl ⟨.int (r2 - 5), by simp, rfl, ?_⟩)))
    obtain ⟨N, hN⟩ : ∃ N : Int, N = r2 - 5 := ⟨_, rfl⟩
    have bN : -1000 ≤ N ∧ N ≤ 1000000000000000000000 := by omega
    rw [← hN]
    change Sat (mSeq _ _ (Lw (some (.scr ms)) (some d2) (some z) (some (.str W)) (some (.int N)) y b h p q s t a)) _
    refine sat_seq (sat_set (sat_op1 (sat_fs (n := 1) (d0 := d2) rfl (sat_cons (sat_draw (d := d2) (n := 4) rfl fd2 rfl (by decide) (by decide) fun r3 d3 h30 h31 fd3 => sat_nil ⟨rfl, d3, _, rfl, fd3, names_ok h30 (by omega), fun v d4 hv fd4 => ?_⟩)))))
    obtain ⟨xs, rfl, lx, gx⟩ := hv
    refine ⟨.tup (xs.map .str), by simp [tupleD, D.mem], rfl, ?_⟩
    have ry : Rp (.tup (xs.map .str)) 1 1700 := Rp.names gx.all (by omega)
    obtain ⟨Y, hY⟩ : ∃ Y, Y = D.tup (xs.map .str) := ⟨_, rfl⟩
    rw [← hY] at ry ⊢
    change Sat (mSeq _ _ (Lw (some (.scr ms)) (some d4) (some z) (some (.str W)) (some (.int N)) (some Y) b h p q s t a)) _
    refine sat_seq (sat_set (sat_of (a := .exv "NoBound" [("row", .int N), ("word", .str W)]) (ρ := Lw (some (.scr ms)) (some d4) (some z) (some (.str W)) (some (.int N)) (some Y) b h p q s t a) rfl ⟨rfl, ?_⟩))
    refine sat_seq (sat_set (sat_of (a := .exv "NoHalf" [("number", .int N), ("word", .str W)]) (ρ := Lw (some (.scr ms)) (some d4) (some z) (some (.str W)) (some (.int N)) (some Y) (some (.exv "NoBound" [("row", .int N), ("word", .str W)])) h p q s t a) rfl ⟨rfl, ?_⟩))
    refine sat_seq (sat_set (sat_of (a := .exv "NoPaper" [("row", .int N), ("word", .str W)]) (ρ := Lw (some (.scr ms)) (some d4) (some z) (some (.str W)) (some (.int N)) (some Y) (some (.exv "NoBound" [("row", .int N), ("word", .str W)])) (some (.exv "NoHalf" [("number", .int N), ("word", .str W)])) p q s t a) rfl ⟨rfl, ?_⟩))
    refine sat_seq (sat_set (sat_of (a := .exv "NoPlan" [("path", Y), ("word", .str W)]) (ρ := Lw (some (.scr ms)) (some d4) (some z) (some (.str W)) (some (.int N)) (some Y) (some (.exv "NoBound" [("row", .int N), ("word", .str W)])) (some (.exv "NoHalf" [("number", .int N), ("word", .str W)])) (some (.exv "NoPaper" [("row", .int N), ("word", .str W)])) q s t a) rfl ⟨rfl, ?_⟩))
    obtain ⟨B, hB⟩ : ∃ B, B = D.exv "NoBound" [("row", .int N), ("word", .str W)] := ⟨_, rfl⟩
    obtain ⟨Hf, hH⟩ : ∃ B, B = D.exv "NoHalf" [("number", .int N), ("word", .str W)] := ⟨_, rfl⟩
    obtain ⟨P, hP⟩ : ∃ B, B = D.exv "NoPaper" [("row", .int N), ("word", .str W)] := ⟨_, rfl⟩
    obtain ⟨G, hG⟩ : ∃ B, B = D.exv "NoPlan" [("path", Y), ("word", .str W)] := ⟨_, rfl⟩
    rw [← hB, ← hH, ← hP, ← hG]
    change Sat (mSeq _ _ (Lw (some (.scr ms)) (some d4) (some z) (some (.str W)) (some (.int N)) (some Y) (some B) (some Hf) (some P) (some G) s t a)) _
    refine sat_seq (sat_set (sat_of (a := .lst [.exv "Clash" [("way", Y)], B, .exv "NoCover" [], Hf, .exv "NoJoin" [("word", .str W)], .exv "NoMore" [], .exv "NoName" [("name", .str W)]]) (ρ := Lw (some (.scr ms)) (some d4) (some z) (some (.str W)) (some (.int N)) (some Y) (some B) (some Hf) (some P) (some G) s t a) rfl ⟨rfl, ?_⟩))
    refine sat_seq (sat_set (sat_of (a := .lst ([.exv "Clash" [("way", Y)], B, .exv "NoCover" [], Hf, .exv "NoJoin" [("word", .str W)], .exv "NoMore" [], .exv "NoName" [("name", .str W)]] ++ [.exv "NoOrder" [], P, .exv "NoPlace" [("number", .int N)], G, .exv "NoSaying" [("number", .int N)], .exv "NoText" [("row", .int N)]])) (ρ := Lw (some (.scr ms)) (some d4) (some z) (some (.str W)) (some (.int N)) (some Y) (some B) (some Hf) (some P) (some G) (some (.lst [.exv "Clash" [("way", Y)], B, .exv "NoCover" [], Hf, .exv "NoJoin" [("word", .str W)], .exv "NoMore" [], .exv "NoName" [("name", .str W)]])) t a) rfl ⟨rfl, ?_⟩))
    refine sat_seq (sat_drop (sat_mtL (i := 10) rfl (sat_cons (sat_of (a := .exv "TooMany" [("word", .str W)]) rfl (sat_nil ⟨_, .non, xs21 (.str W) (.int N) Y, rfl, by rw [hB, hH, hP, hG]; rfl, ?_⟩)))))
    refine ⟨rfl, ?_⟩
    change Sat (mSeq _ _ (Lw (some (.scr ms)) (some d4) (some z) (some (.str W)) (some (.int N)) (some Y) (some B) (some Hf) (some P) (some G) (some (.lst (xs21 (.str W) (.int N) Y))) t a)) _
    have lc := lc_vmap (R := List.range 14) (ma := mR1 (mCons (mC (.int 14)) mNil)) (elt := mCall0 2 g__law_own (mCons (mOp2 ixD (mS 10) (mV (mVar 12))) (mCons (mVar 12) mNil))) (i := 12) (ρ := Lw (some (.scr ms)) (some d4) (some z) (some (.str W)) (some (.int N)) (some Y) (some B) (some Hf) (some P) (some G) (some (.lst (xs21 (.str W) (.int N) Y))) t a) (fun k => .int (0 + (k : Int))) (fun _ => .bl true) rfl (by decide) (by simp) fun k mk => by
      obtain ⟨x, e1, e2⟩ := own_at (.str W) (.int N) Y k (List.mem_range.mp mk)
      exact call0_2 (op2s_val rfl rfl e1) rfl e2
    refine sat_skip (test_val (op2_val rfl lc rfl)) ?_
    obtain ⟨TL, hTL⟩ : ∃ TL, TL = D.lst [.str W, .int N, .str W, .int N, .str W, .int N, .str W, Y] := ⟨_, rfl⟩
    have r1 : Rp TL 2 16100 := by
      rw [hTL]
      refine (Rp.lst (k := 1) (w := 2000) fun x m => ?_).mono (by omega) (by show 2000 * 8 + 2 * 8 + 3 ≤ 16100; omega)
      have c1 : Rp (.str W) 1 2000 := (Rp.wordS lW).mono (by omega) (by omega)
      have c2 : Rp (.int N) 1 2000 := (Rp.intZ bN.1 bN.2).mono (by omega) (by omega)
      have c3 : Rp Y 1 2000 := ry.mono (by omega) (by omega)
      simp only [List.mem_cons, List.mem_nil_iff, or_false] at m
      rcases m with rfl | rfl | rfl | rfl | rfl | rfl | rfl | rfl <;> assumption
    have p1 := r1.repr (by omega) (by omega)
    refine sat_seq (sat_set (sat_of (a := TL) (ρ := Lw (some (.scr ms)) (some d4) (some z) (some (.str W)) (some (.int N)) (some Y) (some B) (some Hf) (some P) (some G) (some (.lst (xs21 (.str W) (.int N) Y))) t a) (by rw [hTL, hB, hH, hP, hG]; rfl) ⟨rfl, ?_⟩))
    change Sat (mSeq _ _ (Lw (some (.scr ms)) (some d4) (some z) (some (.str W)) (some (.int N)) (some Y) (some B) (some Hf) (some P) (some G) (some (.lst (xs21 (.str W) (.int N) Y))) (some TL) a)) _
    refine sat_skip (test_val (op2_val (len_opS rfl p1) (len_opS (d := TL) (by rw [hTL]; rfl) p1) (ne_rp _))) ?_
    obtain ⟨TM, hTM⟩ : ∃ TM, TM = D.lst [Y, .str W, .str W, .int N, .int N, .int N, .str W] := ⟨_, rfl⟩
    have r2' : Rp TM 2 16100 := by
      rw [hTM]
      refine (Rp.lst (k := 1) (w := 2000) fun x m => ?_).mono (by omega) (by show 2000 * 7 + 2 * 7 + 3 ≤ 16100; omega)
      have c1 : Rp (.str W) 1 2000 := (Rp.wordS lW).mono (by omega) (by omega)
      have c2 : Rp (.int N) 1 2000 := (Rp.intZ bN.1 bN.2).mono (by omega) (by omega)
      have c3 : Rp Y 1 2000 := ry.mono (by omega) (by omega)
      simp only [List.mem_cons, List.mem_nil_iff, or_false] at m
      rcases m with rfl | rfl | rfl | rfl | rfl | rfl | rfl <;> assumption
    have p2 := r2'.repr (by omega) (by omega)
    refine sat_seq (sat_set (sat_of (a := TM) (ρ := Lw (some (.scr ms)) (some d4) (some z) (some (.str W)) (some (.int N)) (some Y) (some B) (some Hf) (some P) (some G) (some (.lst (xs21 (.str W) (.int N) Y))) (some TL) a) (by rw [hTM]; rfl) ⟨rfl, ?_⟩))
    change Sat (mIfS _ _ _ (Lw (some (.scr ms)) (some d4) (some z) (some (.str W)) (some (.int N)) (some Y) (some B) (some Hf) (some P) (some G) (some (.lst (xs21 (.str W) (.int N) Y))) (some TM) a)) _
    exact sat_ifF (test_val (op2_val (len_opS rfl p2) (len_opS (d := TM) (by rw [hTM]; rfl) p2) (ne_rp _))) (sat_of rfl (.inl ⟨rfl, d4, _, _, _, _, _, _, _, _, _, _, _, fd4, rfl⟩))
  · rintro ρ ⟨d, k, w, n, y, b, h, p, q, s, t, a, fd, rfl⟩
    exact ⟨rfl, sat_ret (sat_of (a := .bl true) rfl rfl)⟩

theorem law_true : ∀ ms : List Int, ms.length ≤ 63 → ∃ ρ, g_law [.scr ms] = .ok (.bl true) ρ := law_holds
end VL
namespace VL
open PySem PySem.Spec L2
set_option maxHeartbeats 4000000 in
theorem all_mk {w : World} {K : PySem.W.Frag} {h : Heap} {mg : Str → Option Value} {fa f0 f1 f2 f3 f4 f5 : Addr} {od0 an0 od1 an1 od2 an2 od3 an3 od4 an4 od5 an5 : Option Addr} {sl0 sl1 sl2 sl3 sl4 sl5 : Array (Option Value)} {oc0 kV0 dc0 pm0 cd0 ct0 oc1 kV1 dc1 pm1 cd1 ct1 oc2 kV2 dc2 pm2 cd2 ct2 oc3 kV3 dc3 pm3 cd3 ct3 oc4 kV4 dc4 pm4 cd4 ct4 oc5 kV5 dc5 pm5 cd5 ct5 : Value} (X : K.In h) (G : h.Ns mainGlobals mg) (hfa : mg "law" = some (.ref fa))
    (a0 : PySem.W.nsIn K mainGlobals "_law_feed" = some (some (.ref f0))) (l0 : K.lookup f0 = some ⟨oc0, od0, .func (PySem.W.fnOf "_law_feed" "_law_feed" (defArgs s__law_feed) (defBody s__law_feed) (defScope s__law_feed) .none kV0 dc0 pm0 an0 cd0 ct0), sl0⟩)
    (e0 : PySem.W.codeIn K cd0 "_law_feed" = true) (k0 : PySem.W.keepIn K (.ref f0) = true)
    (a1 : PySem.W.nsIn K mainGlobals "_law_draw" = some (some (.ref f1))) (l1 : K.lookup f1 = some ⟨oc1, od1, .func (PySem.W.fnOf "_law_draw" "_law_draw" (defArgs s__law_draw) (defBody s__law_draw) (defScope s__law_draw) .none kV1 dc1 pm1 an1 cd1 ct1), sl1⟩)
    (e1 : PySem.W.codeIn K cd1 "_law_draw" = true) (k1 : PySem.W.keepIn K (.ref f1) = true)
    (a2 : PySem.W.nsIn K mainGlobals "_law_names" = some (some (.ref f2))) (l2 : K.lookup f2 = some ⟨oc2, od2, .func (PySem.W.fnOf "_law_names" "_law_names" (defArgs s__law_names) (defBody s__law_names) (defScope s__law_names) .none kV2 dc2 pm2 an2 cd2 ct2), sl2⟩)
    (e2 : PySem.W.codeIn K cd2 "_law_names" = true) (k2 : PySem.W.keepIn K (.ref f2) = true)
    (a3 : PySem.W.nsIn K mainGlobals "_law_kinds" = some (some (.ref f3))) (l3 : K.lookup f3 = some ⟨oc3, od3, .func (PySem.W.fnOf "_law_kinds" "_law_kinds" (defArgs s__law_kinds) (defBody s__law_kinds) (defScope s__law_kinds) .none kV3 dc3 pm3 an3 cd3 ct3), sl3⟩)
    (e3 : PySem.W.codeIn K cd3 "_law_kinds" = true) (k3 : PySem.W.keepIn K (.ref f3) = true)
    (a4 : PySem.W.nsIn K mainGlobals "_law_own" = some (some (.ref f4))) (l4 : K.lookup f4 = some ⟨oc4, od4, .func (PySem.W.fnOf "_law_own" "_law_own" (defArgs s__law_own) (defBody s__law_own) (defScope s__law_own) .none kV4 dc4 pm4 an4 cd4 ct4), sl4⟩)
    (e4 : PySem.W.codeIn K cd4 "_law_own" = true) (k4 : PySem.W.keepIn K (.ref f4) = true)
    (a5 : PySem.W.nsIn K mainGlobals "law" = some (some (.ref f5))) (l5 : K.lookup f5 = some ⟨oc5, od5, .func (PySem.W.fnOf "law" "law" (defArgs s_law) (defBody s_law) (defScope s_law) .none kV5 dc5 pm5 an5 cd5 ct5), sl5⟩)
    (e5 : PySem.W.codeIn K cd5 "law" = true) (k5 : PySem.W.keepIn K (.ref f5) = true)
    {A_Clash A_HalfError A_NoBound A_NoCover A_NoHalf A_NoJoin A_NoMore A_NoName A_NoOrder A_NoPaper A_NoPlace A_NoPlan A_NoSaying A_NoText A_TooMany : Addr}
    (ac_Clash : PySem.W.nsIn K mainGlobals "Clash" = some (some (.ref A_Clash)))
    (ac_HalfError : PySem.W.nsIn K mainGlobals "HalfError" = some (some (.ref A_HalfError)))
    (ac_NoBound : PySem.W.nsIn K mainGlobals "NoBound" = some (some (.ref A_NoBound)))
    (ac_NoCover : PySem.W.nsIn K mainGlobals "NoCover" = some (some (.ref A_NoCover)))
    (ac_NoHalf : PySem.W.nsIn K mainGlobals "NoHalf" = some (some (.ref A_NoHalf)))
    (ac_NoJoin : PySem.W.nsIn K mainGlobals "NoJoin" = some (some (.ref A_NoJoin)))
    (ac_NoMore : PySem.W.nsIn K mainGlobals "NoMore" = some (some (.ref A_NoMore)))
    (ac_NoName : PySem.W.nsIn K mainGlobals "NoName" = some (some (.ref A_NoName)))
    (ac_NoOrder : PySem.W.nsIn K mainGlobals "NoOrder" = some (some (.ref A_NoOrder)))
    (ac_NoPaper : PySem.W.nsIn K mainGlobals "NoPaper" = some (some (.ref A_NoPaper)))
    (ac_NoPlace : PySem.W.nsIn K mainGlobals "NoPlace" = some (some (.ref A_NoPlace)))
    (ac_NoPlan : PySem.W.nsIn K mainGlobals "NoPlan" = some (some (.ref A_NoPlan)))
    (ac_NoSaying : PySem.W.nsIn K mainGlobals "NoSaying" = some (some (.ref A_NoSaying)))
    (ac_NoText : PySem.W.nsIn K mainGlobals "NoText" = some (some (.ref A_NoText)))
    (ac_TooMany : PySem.W.nsIn K mainGlobals "TooMany" = some (some (.ref A_TooMany)))
    {nm_Clash q_Clash : Str} {N_Clash : Addr} {bs_Clash : List Value} {sn_Clash : List Str} {sub_Clash : List Value} {ab_Clash : Bool} {col_Clash : Option Bool} {dd_Clash : Option Addr} {m0_Clash m1_Clash m2_Clash m3_Clash m5_Clash : Option Value} {fI_Clash : Addr} {oi_Clash kVi_Clash dci_Clash pmi_Clash cdi_Clash cti_Clash : Value} {odi_Clash ani_Clash : Option Addr} {sli_Clash : Array (Option Value)}
    (xl_Clash : K.lookup A_Clash = some (excClassObj nm_Clash q_Clash A_Clash N_Clash bs_Clash [.ref A_HalfError, .type "ValueError", .type "Exception", .type "BaseException", .type "object"] true sn_Clash sub_Clash ab_Clash col_Clash dd_Clash m0_Clash m1_Clash m2_Clash m3_Clash m5_Clash "ValueError.__new__"))
    (sa_Clash : PySem.W.findIn K (.ref A_Clash) "__setattr__" = some (some (.builtin "object.__setattr__")))
    (i1_Clash : PySem.W.findIn K (.ref A_Clash) "__init__" = some (some (.ref fI_Clash)))
    (t1_Clash : PySem.W.typeIn K (.ref fI_Clash) = some (.type "function"))
    (l1_Clash : K.lookup fI_Clash = some ⟨oi_Clash, odi_Clash, .func (PySem.W.fnOf "__init__" "Clash.__init__" (defArgs s_init_Clash) (defBody s_init_Clash) (defScope s_init_Clash) .none kVi_Clash dci_Clash pmi_Clash ani_Clash cdi_Clash cti_Clash), sli_Clash⟩)
    (c1_Clash : PySem.W.codeIn K cdi_Clash "Clash.__init__" = true)
    (kk_Clash : PySem.W.keepIn K (.ref fI_Clash) = true)
    (nf_Clash_way : PySem.W.findIn K (.ref A_Clash) "way" = some none)
    (ga_Clash : PySem.W.findIn K (.ref A_Clash) "__getattribute__" = some (some (.builtin "BaseException.__getattribute__")))
    (gg_Clash : PySem.W.findIn K (.ref A_Clash) "__getattr__" = some none)
    (cl_Clash : PySem.W.findIn K (.ref A_Clash) "__class__" = some (some (.builtin "object.__class__")))
    (kp_Clash : PySem.W.keepIn K (.ref A_Clash) = true)
    (eb_Clash : PySem.W.subIn K (.ref A_Clash) (.type "BaseException") = some true)
    (ty_Clash : PySem.W.typeIn K (.ref A_Clash) = some (.type "type"))
    (hd_Clash : PySem.W.hasDictIn K A_Clash = true)
    (mo_Clash : PySem.W.mroIn K A_Clash (.type "object") = some true)
    {nm_NoBound q_NoBound : Str} {N_NoBound : Addr} {bs_NoBound : List Value} {sn_NoBound : List Str} {sub_NoBound : List Value} {ab_NoBound : Bool} {col_NoBound : Option Bool} {dd_NoBound : Option Addr} {m0_NoBound m1_NoBound m2_NoBound m3_NoBound m5_NoBound : Option Value} {fI_NoBound : Addr} {oi_NoBound kVi_NoBound dci_NoBound pmi_NoBound cdi_NoBound cti_NoBound : Value} {odi_NoBound ani_NoBound : Option Addr} {sli_NoBound : Array (Option Value)}
    (xl_NoBound : K.lookup A_NoBound = some (excClassObj nm_NoBound q_NoBound A_NoBound N_NoBound bs_NoBound [.ref A_HalfError, .type "ValueError", .type "Exception", .type "BaseException", .type "object"] true sn_NoBound sub_NoBound ab_NoBound col_NoBound dd_NoBound m0_NoBound m1_NoBound m2_NoBound m3_NoBound m5_NoBound "ValueError.__new__"))
    (sa_NoBound : PySem.W.findIn K (.ref A_NoBound) "__setattr__" = some (some (.builtin "object.__setattr__")))
    (i1_NoBound : PySem.W.findIn K (.ref A_NoBound) "__init__" = some (some (.ref fI_NoBound)))
    (t1_NoBound : PySem.W.typeIn K (.ref fI_NoBound) = some (.type "function"))
    (l1_NoBound : K.lookup fI_NoBound = some ⟨oi_NoBound, odi_NoBound, .func (PySem.W.fnOf "__init__" "NoBound.__init__" (defArgs s_init_NoBound) (defBody s_init_NoBound) (defScope s_init_NoBound) .none kVi_NoBound dci_NoBound pmi_NoBound ani_NoBound cdi_NoBound cti_NoBound), sli_NoBound⟩)
    (c1_NoBound : PySem.W.codeIn K cdi_NoBound "NoBound.__init__" = true)
    (kk_NoBound : PySem.W.keepIn K (.ref fI_NoBound) = true)
    (nf_NoBound_word : PySem.W.findIn K (.ref A_NoBound) "word" = some none)
    (nf_NoBound_row : PySem.W.findIn K (.ref A_NoBound) "row" = some none)
    (ga_NoBound : PySem.W.findIn K (.ref A_NoBound) "__getattribute__" = some (some (.builtin "BaseException.__getattribute__")))
    (gg_NoBound : PySem.W.findIn K (.ref A_NoBound) "__getattr__" = some none)
    (cl_NoBound : PySem.W.findIn K (.ref A_NoBound) "__class__" = some (some (.builtin "object.__class__")))
    (kp_NoBound : PySem.W.keepIn K (.ref A_NoBound) = true)
    (eb_NoBound : PySem.W.subIn K (.ref A_NoBound) (.type "BaseException") = some true)
    (ty_NoBound : PySem.W.typeIn K (.ref A_NoBound) = some (.type "type"))
    (hd_NoBound : PySem.W.hasDictIn K A_NoBound = true)
    (mo_NoBound : PySem.W.mroIn K A_NoBound (.type "object") = some true)
    (xq_NoCover : PySem.W.excIn K A_NoCover [.type "ValueError", .type "Exception", .type "BaseException", .type "object"] "ValueError.__new__" = true)
    (ga_NoCover : PySem.W.findIn K (.ref A_NoCover) "__getattribute__" = some (some (.builtin "BaseException.__getattribute__")))
    (gg_NoCover : PySem.W.findIn K (.ref A_NoCover) "__getattr__" = some none)
    (cl_NoCover : PySem.W.findIn K (.ref A_NoCover) "__class__" = some (some (.builtin "object.__class__")))
    (kp_NoCover : PySem.W.keepIn K (.ref A_NoCover) = true)
    (eb_NoCover : PySem.W.subIn K (.ref A_NoCover) (.type "BaseException") = some true)
    (ty_NoCover : PySem.W.typeIn K (.ref A_NoCover) = some (.type "type"))
    (hd_NoCover : PySem.W.hasDictIn K A_NoCover = true)
    (mo_NoCover : PySem.W.mroIn K A_NoCover (.type "object") = some true)
    {nm_NoHalf q_NoHalf : Str} {N_NoHalf : Addr} {bs_NoHalf : List Value} {sn_NoHalf : List Str} {sub_NoHalf : List Value} {ab_NoHalf : Bool} {col_NoHalf : Option Bool} {dd_NoHalf : Option Addr} {m0_NoHalf m1_NoHalf m2_NoHalf m3_NoHalf m5_NoHalf : Option Value} {fI_NoHalf : Addr} {oi_NoHalf kVi_NoHalf dci_NoHalf pmi_NoHalf cdi_NoHalf cti_NoHalf : Value} {odi_NoHalf ani_NoHalf : Option Addr} {sli_NoHalf : Array (Option Value)}
    (xl_NoHalf : K.lookup A_NoHalf = some (excClassObj nm_NoHalf q_NoHalf A_NoHalf N_NoHalf bs_NoHalf [.ref A_HalfError, .type "ValueError", .type "Exception", .type "BaseException", .type "object"] true sn_NoHalf sub_NoHalf ab_NoHalf col_NoHalf dd_NoHalf m0_NoHalf m1_NoHalf m2_NoHalf m3_NoHalf m5_NoHalf "ValueError.__new__"))
    (sa_NoHalf : PySem.W.findIn K (.ref A_NoHalf) "__setattr__" = some (some (.builtin "object.__setattr__")))
    (i1_NoHalf : PySem.W.findIn K (.ref A_NoHalf) "__init__" = some (some (.ref fI_NoHalf)))
    (t1_NoHalf : PySem.W.typeIn K (.ref fI_NoHalf) = some (.type "function"))
    (l1_NoHalf : K.lookup fI_NoHalf = some ⟨oi_NoHalf, odi_NoHalf, .func (PySem.W.fnOf "__init__" "NoHalf.__init__" (defArgs s_init_NoHalf) (defBody s_init_NoHalf) (defScope s_init_NoHalf) .none kVi_NoHalf dci_NoHalf pmi_NoHalf ani_NoHalf cdi_NoHalf cti_NoHalf), sli_NoHalf⟩)
    (c1_NoHalf : PySem.W.codeIn K cdi_NoHalf "NoHalf.__init__" = true)
    (kk_NoHalf : PySem.W.keepIn K (.ref fI_NoHalf) = true)
    (nf_NoHalf_word : PySem.W.findIn K (.ref A_NoHalf) "word" = some none)
    (nf_NoHalf_number : PySem.W.findIn K (.ref A_NoHalf) "number" = some none)
    (ga_NoHalf : PySem.W.findIn K (.ref A_NoHalf) "__getattribute__" = some (some (.builtin "BaseException.__getattribute__")))
    (gg_NoHalf : PySem.W.findIn K (.ref A_NoHalf) "__getattr__" = some none)
    (cl_NoHalf : PySem.W.findIn K (.ref A_NoHalf) "__class__" = some (some (.builtin "object.__class__")))
    (kp_NoHalf : PySem.W.keepIn K (.ref A_NoHalf) = true)
    (eb_NoHalf : PySem.W.subIn K (.ref A_NoHalf) (.type "BaseException") = some true)
    (ty_NoHalf : PySem.W.typeIn K (.ref A_NoHalf) = some (.type "type"))
    (hd_NoHalf : PySem.W.hasDictIn K A_NoHalf = true)
    (mo_NoHalf : PySem.W.mroIn K A_NoHalf (.type "object") = some true)
    {nm_NoJoin q_NoJoin : Str} {N_NoJoin : Addr} {bs_NoJoin : List Value} {sn_NoJoin : List Str} {sub_NoJoin : List Value} {ab_NoJoin : Bool} {col_NoJoin : Option Bool} {dd_NoJoin : Option Addr} {m0_NoJoin m1_NoJoin m2_NoJoin m3_NoJoin m5_NoJoin : Option Value} {fI_NoJoin : Addr} {oi_NoJoin kVi_NoJoin dci_NoJoin pmi_NoJoin cdi_NoJoin cti_NoJoin : Value} {odi_NoJoin ani_NoJoin : Option Addr} {sli_NoJoin : Array (Option Value)}
    (xl_NoJoin : K.lookup A_NoJoin = some (excClassObj nm_NoJoin q_NoJoin A_NoJoin N_NoJoin bs_NoJoin [.ref A_HalfError, .type "ValueError", .type "Exception", .type "BaseException", .type "object"] true sn_NoJoin sub_NoJoin ab_NoJoin col_NoJoin dd_NoJoin m0_NoJoin m1_NoJoin m2_NoJoin m3_NoJoin m5_NoJoin "ValueError.__new__"))
    (sa_NoJoin : PySem.W.findIn K (.ref A_NoJoin) "__setattr__" = some (some (.builtin "object.__setattr__")))
    (i1_NoJoin : PySem.W.findIn K (.ref A_NoJoin) "__init__" = some (some (.ref fI_NoJoin)))
    (t1_NoJoin : PySem.W.typeIn K (.ref fI_NoJoin) = some (.type "function"))
    (l1_NoJoin : K.lookup fI_NoJoin = some ⟨oi_NoJoin, odi_NoJoin, .func (PySem.W.fnOf "__init__" "NoJoin.__init__" (defArgs s_init_NoJoin) (defBody s_init_NoJoin) (defScope s_init_NoJoin) .none kVi_NoJoin dci_NoJoin pmi_NoJoin ani_NoJoin cdi_NoJoin cti_NoJoin), sli_NoJoin⟩)
    (c1_NoJoin : PySem.W.codeIn K cdi_NoJoin "NoJoin.__init__" = true)
    (kk_NoJoin : PySem.W.keepIn K (.ref fI_NoJoin) = true)
    (nf_NoJoin_word : PySem.W.findIn K (.ref A_NoJoin) "word" = some none)
    (ga_NoJoin : PySem.W.findIn K (.ref A_NoJoin) "__getattribute__" = some (some (.builtin "BaseException.__getattribute__")))
    (gg_NoJoin : PySem.W.findIn K (.ref A_NoJoin) "__getattr__" = some none)
    (cl_NoJoin : PySem.W.findIn K (.ref A_NoJoin) "__class__" = some (some (.builtin "object.__class__")))
    (kp_NoJoin : PySem.W.keepIn K (.ref A_NoJoin) = true)
    (eb_NoJoin : PySem.W.subIn K (.ref A_NoJoin) (.type "BaseException") = some true)
    (ty_NoJoin : PySem.W.typeIn K (.ref A_NoJoin) = some (.type "type"))
    (hd_NoJoin : PySem.W.hasDictIn K A_NoJoin = true)
    (mo_NoJoin : PySem.W.mroIn K A_NoJoin (.type "object") = some true)
    (xq_NoMore : PySem.W.excIn K A_NoMore [.type "ValueError", .type "Exception", .type "BaseException", .type "object"] "ValueError.__new__" = true)
    (ga_NoMore : PySem.W.findIn K (.ref A_NoMore) "__getattribute__" = some (some (.builtin "BaseException.__getattribute__")))
    (gg_NoMore : PySem.W.findIn K (.ref A_NoMore) "__getattr__" = some none)
    (cl_NoMore : PySem.W.findIn K (.ref A_NoMore) "__class__" = some (some (.builtin "object.__class__")))
    (kp_NoMore : PySem.W.keepIn K (.ref A_NoMore) = true)
    (eb_NoMore : PySem.W.subIn K (.ref A_NoMore) (.type "BaseException") = some true)
    (ty_NoMore : PySem.W.typeIn K (.ref A_NoMore) = some (.type "type"))
    (hd_NoMore : PySem.W.hasDictIn K A_NoMore = true)
    (mo_NoMore : PySem.W.mroIn K A_NoMore (.type "object") = some true)
    {nm_NoName q_NoName : Str} {N_NoName : Addr} {bs_NoName : List Value} {sn_NoName : List Str} {sub_NoName : List Value} {ab_NoName : Bool} {col_NoName : Option Bool} {dd_NoName : Option Addr} {m0_NoName m1_NoName m2_NoName m3_NoName m5_NoName : Option Value} {fI_NoName : Addr} {oi_NoName kVi_NoName dci_NoName pmi_NoName cdi_NoName cti_NoName : Value} {odi_NoName ani_NoName : Option Addr} {sli_NoName : Array (Option Value)}
    (xl_NoName : K.lookup A_NoName = some (excClassObj nm_NoName q_NoName A_NoName N_NoName bs_NoName [.ref A_HalfError, .type "ValueError", .type "Exception", .type "BaseException", .type "object"] true sn_NoName sub_NoName ab_NoName col_NoName dd_NoName m0_NoName m1_NoName m2_NoName m3_NoName m5_NoName "ValueError.__new__"))
    (sa_NoName : PySem.W.findIn K (.ref A_NoName) "__setattr__" = some (some (.builtin "object.__setattr__")))
    (i1_NoName : PySem.W.findIn K (.ref A_NoName) "__init__" = some (some (.ref fI_NoName)))
    (t1_NoName : PySem.W.typeIn K (.ref fI_NoName) = some (.type "function"))
    (l1_NoName : K.lookup fI_NoName = some ⟨oi_NoName, odi_NoName, .func (PySem.W.fnOf "__init__" "NoName.__init__" (defArgs s_init_NoName) (defBody s_init_NoName) (defScope s_init_NoName) .none kVi_NoName dci_NoName pmi_NoName ani_NoName cdi_NoName cti_NoName), sli_NoName⟩)
    (c1_NoName : PySem.W.codeIn K cdi_NoName "NoName.__init__" = true)
    (kk_NoName : PySem.W.keepIn K (.ref fI_NoName) = true)
    (nf_NoName_name : PySem.W.findIn K (.ref A_NoName) "name" = some none)
    (ga_NoName : PySem.W.findIn K (.ref A_NoName) "__getattribute__" = some (some (.builtin "BaseException.__getattribute__")))
    (gg_NoName : PySem.W.findIn K (.ref A_NoName) "__getattr__" = some none)
    (cl_NoName : PySem.W.findIn K (.ref A_NoName) "__class__" = some (some (.builtin "object.__class__")))
    (kp_NoName : PySem.W.keepIn K (.ref A_NoName) = true)
    (eb_NoName : PySem.W.subIn K (.ref A_NoName) (.type "BaseException") = some true)
    (ty_NoName : PySem.W.typeIn K (.ref A_NoName) = some (.type "type"))
    (hd_NoName : PySem.W.hasDictIn K A_NoName = true)
    (mo_NoName : PySem.W.mroIn K A_NoName (.type "object") = some true)
    (xq_NoOrder : PySem.W.excIn K A_NoOrder [.type "ValueError", .type "Exception", .type "BaseException", .type "object"] "ValueError.__new__" = true)
    (ga_NoOrder : PySem.W.findIn K (.ref A_NoOrder) "__getattribute__" = some (some (.builtin "BaseException.__getattribute__")))
    (gg_NoOrder : PySem.W.findIn K (.ref A_NoOrder) "__getattr__" = some none)
    (cl_NoOrder : PySem.W.findIn K (.ref A_NoOrder) "__class__" = some (some (.builtin "object.__class__")))
    (kp_NoOrder : PySem.W.keepIn K (.ref A_NoOrder) = true)
    (eb_NoOrder : PySem.W.subIn K (.ref A_NoOrder) (.type "BaseException") = some true)
    (ty_NoOrder : PySem.W.typeIn K (.ref A_NoOrder) = some (.type "type"))
    (hd_NoOrder : PySem.W.hasDictIn K A_NoOrder = true)
    (mo_NoOrder : PySem.W.mroIn K A_NoOrder (.type "object") = some true)
    {nm_NoPaper q_NoPaper : Str} {N_NoPaper : Addr} {bs_NoPaper : List Value} {sn_NoPaper : List Str} {sub_NoPaper : List Value} {ab_NoPaper : Bool} {col_NoPaper : Option Bool} {dd_NoPaper : Option Addr} {m0_NoPaper m1_NoPaper m2_NoPaper m3_NoPaper m5_NoPaper : Option Value} {fI_NoPaper : Addr} {oi_NoPaper kVi_NoPaper dci_NoPaper pmi_NoPaper cdi_NoPaper cti_NoPaper : Value} {odi_NoPaper ani_NoPaper : Option Addr} {sli_NoPaper : Array (Option Value)}
    (xl_NoPaper : K.lookup A_NoPaper = some (excClassObj nm_NoPaper q_NoPaper A_NoPaper N_NoPaper bs_NoPaper [.ref A_HalfError, .type "ValueError", .type "Exception", .type "BaseException", .type "object"] true sn_NoPaper sub_NoPaper ab_NoPaper col_NoPaper dd_NoPaper m0_NoPaper m1_NoPaper m2_NoPaper m3_NoPaper m5_NoPaper "ValueError.__new__"))
    (sa_NoPaper : PySem.W.findIn K (.ref A_NoPaper) "__setattr__" = some (some (.builtin "object.__setattr__")))
    (i1_NoPaper : PySem.W.findIn K (.ref A_NoPaper) "__init__" = some (some (.ref fI_NoPaper)))
    (t1_NoPaper : PySem.W.typeIn K (.ref fI_NoPaper) = some (.type "function"))
    (l1_NoPaper : K.lookup fI_NoPaper = some ⟨oi_NoPaper, odi_NoPaper, .func (PySem.W.fnOf "__init__" "NoPaper.__init__" (defArgs s_init_NoPaper) (defBody s_init_NoPaper) (defScope s_init_NoPaper) .none kVi_NoPaper dci_NoPaper pmi_NoPaper ani_NoPaper cdi_NoPaper cti_NoPaper), sli_NoPaper⟩)
    (c1_NoPaper : PySem.W.codeIn K cdi_NoPaper "NoPaper.__init__" = true)
    (kk_NoPaper : PySem.W.keepIn K (.ref fI_NoPaper) = true)
    (nf_NoPaper_word : PySem.W.findIn K (.ref A_NoPaper) "word" = some none)
    (nf_NoPaper_row : PySem.W.findIn K (.ref A_NoPaper) "row" = some none)
    (ga_NoPaper : PySem.W.findIn K (.ref A_NoPaper) "__getattribute__" = some (some (.builtin "BaseException.__getattribute__")))
    (gg_NoPaper : PySem.W.findIn K (.ref A_NoPaper) "__getattr__" = some none)
    (cl_NoPaper : PySem.W.findIn K (.ref A_NoPaper) "__class__" = some (some (.builtin "object.__class__")))
    (kp_NoPaper : PySem.W.keepIn K (.ref A_NoPaper) = true)
    (eb_NoPaper : PySem.W.subIn K (.ref A_NoPaper) (.type "BaseException") = some true)
    (ty_NoPaper : PySem.W.typeIn K (.ref A_NoPaper) = some (.type "type"))
    (hd_NoPaper : PySem.W.hasDictIn K A_NoPaper = true)
    (mo_NoPaper : PySem.W.mroIn K A_NoPaper (.type "object") = some true)
    {nm_NoPlace q_NoPlace : Str} {N_NoPlace : Addr} {bs_NoPlace : List Value} {sn_NoPlace : List Str} {sub_NoPlace : List Value} {ab_NoPlace : Bool} {col_NoPlace : Option Bool} {dd_NoPlace : Option Addr} {m0_NoPlace m1_NoPlace m2_NoPlace m3_NoPlace m5_NoPlace : Option Value} {fI_NoPlace : Addr} {oi_NoPlace kVi_NoPlace dci_NoPlace pmi_NoPlace cdi_NoPlace cti_NoPlace : Value} {odi_NoPlace ani_NoPlace : Option Addr} {sli_NoPlace : Array (Option Value)}
    (xl_NoPlace : K.lookup A_NoPlace = some (excClassObj nm_NoPlace q_NoPlace A_NoPlace N_NoPlace bs_NoPlace [.ref A_HalfError, .type "ValueError", .type "Exception", .type "BaseException", .type "object"] true sn_NoPlace sub_NoPlace ab_NoPlace col_NoPlace dd_NoPlace m0_NoPlace m1_NoPlace m2_NoPlace m3_NoPlace m5_NoPlace "ValueError.__new__"))
    (sa_NoPlace : PySem.W.findIn K (.ref A_NoPlace) "__setattr__" = some (some (.builtin "object.__setattr__")))
    (i1_NoPlace : PySem.W.findIn K (.ref A_NoPlace) "__init__" = some (some (.ref fI_NoPlace)))
    (t1_NoPlace : PySem.W.typeIn K (.ref fI_NoPlace) = some (.type "function"))
    (l1_NoPlace : K.lookup fI_NoPlace = some ⟨oi_NoPlace, odi_NoPlace, .func (PySem.W.fnOf "__init__" "NoPlace.__init__" (defArgs s_init_NoPlace) (defBody s_init_NoPlace) (defScope s_init_NoPlace) .none kVi_NoPlace dci_NoPlace pmi_NoPlace ani_NoPlace cdi_NoPlace cti_NoPlace), sli_NoPlace⟩)
    (c1_NoPlace : PySem.W.codeIn K cdi_NoPlace "NoPlace.__init__" = true)
    (kk_NoPlace : PySem.W.keepIn K (.ref fI_NoPlace) = true)
    (nf_NoPlace_number : PySem.W.findIn K (.ref A_NoPlace) "number" = some none)
    (ga_NoPlace : PySem.W.findIn K (.ref A_NoPlace) "__getattribute__" = some (some (.builtin "BaseException.__getattribute__")))
    (gg_NoPlace : PySem.W.findIn K (.ref A_NoPlace) "__getattr__" = some none)
    (cl_NoPlace : PySem.W.findIn K (.ref A_NoPlace) "__class__" = some (some (.builtin "object.__class__")))
    (kp_NoPlace : PySem.W.keepIn K (.ref A_NoPlace) = true)
    (eb_NoPlace : PySem.W.subIn K (.ref A_NoPlace) (.type "BaseException") = some true)
    (ty_NoPlace : PySem.W.typeIn K (.ref A_NoPlace) = some (.type "type"))
    (hd_NoPlace : PySem.W.hasDictIn K A_NoPlace = true)
    (mo_NoPlace : PySem.W.mroIn K A_NoPlace (.type "object") = some true)
    {nm_NoPlan q_NoPlan : Str} {N_NoPlan : Addr} {bs_NoPlan : List Value} {sn_NoPlan : List Str} {sub_NoPlan : List Value} {ab_NoPlan : Bool} {col_NoPlan : Option Bool} {dd_NoPlan : Option Addr} {m0_NoPlan m1_NoPlan m2_NoPlan m3_NoPlan m5_NoPlan : Option Value} {fI_NoPlan : Addr} {oi_NoPlan kVi_NoPlan dci_NoPlan pmi_NoPlan cdi_NoPlan cti_NoPlan : Value} {odi_NoPlan ani_NoPlan : Option Addr} {sli_NoPlan : Array (Option Value)}
    (xl_NoPlan : K.lookup A_NoPlan = some (excClassObj nm_NoPlan q_NoPlan A_NoPlan N_NoPlan bs_NoPlan [.ref A_HalfError, .type "ValueError", .type "Exception", .type "BaseException", .type "object"] true sn_NoPlan sub_NoPlan ab_NoPlan col_NoPlan dd_NoPlan m0_NoPlan m1_NoPlan m2_NoPlan m3_NoPlan m5_NoPlan "ValueError.__new__"))
    (sa_NoPlan : PySem.W.findIn K (.ref A_NoPlan) "__setattr__" = some (some (.builtin "object.__setattr__")))
    (i1_NoPlan : PySem.W.findIn K (.ref A_NoPlan) "__init__" = some (some (.ref fI_NoPlan)))
    (t1_NoPlan : PySem.W.typeIn K (.ref fI_NoPlan) = some (.type "function"))
    (l1_NoPlan : K.lookup fI_NoPlan = some ⟨oi_NoPlan, odi_NoPlan, .func (PySem.W.fnOf "__init__" "NoPlan.__init__" (defArgs s_init_NoPlan) (defBody s_init_NoPlan) (defScope s_init_NoPlan) .none kVi_NoPlan dci_NoPlan pmi_NoPlan ani_NoPlan cdi_NoPlan cti_NoPlan), sli_NoPlan⟩)
    (c1_NoPlan : PySem.W.codeIn K cdi_NoPlan "NoPlan.__init__" = true)
    (kk_NoPlan : PySem.W.keepIn K (.ref fI_NoPlan) = true)
    (nf_NoPlan_word : PySem.W.findIn K (.ref A_NoPlan) "word" = some none)
    (nf_NoPlan_path : PySem.W.findIn K (.ref A_NoPlan) "path" = some none)
    (ga_NoPlan : PySem.W.findIn K (.ref A_NoPlan) "__getattribute__" = some (some (.builtin "BaseException.__getattribute__")))
    (gg_NoPlan : PySem.W.findIn K (.ref A_NoPlan) "__getattr__" = some none)
    (cl_NoPlan : PySem.W.findIn K (.ref A_NoPlan) "__class__" = some (some (.builtin "object.__class__")))
    (kp_NoPlan : PySem.W.keepIn K (.ref A_NoPlan) = true)
    (eb_NoPlan : PySem.W.subIn K (.ref A_NoPlan) (.type "BaseException") = some true)
    (ty_NoPlan : PySem.W.typeIn K (.ref A_NoPlan) = some (.type "type"))
    (hd_NoPlan : PySem.W.hasDictIn K A_NoPlan = true)
    (mo_NoPlan : PySem.W.mroIn K A_NoPlan (.type "object") = some true)
    {nm_NoSaying q_NoSaying : Str} {N_NoSaying : Addr} {bs_NoSaying : List Value} {sn_NoSaying : List Str} {sub_NoSaying : List Value} {ab_NoSaying : Bool} {col_NoSaying : Option Bool} {dd_NoSaying : Option Addr} {m0_NoSaying m1_NoSaying m2_NoSaying m3_NoSaying m5_NoSaying : Option Value} {fI_NoSaying : Addr} {oi_NoSaying kVi_NoSaying dci_NoSaying pmi_NoSaying cdi_NoSaying cti_NoSaying : Value} {odi_NoSaying ani_NoSaying : Option Addr} {sli_NoSaying : Array (Option Value)}
    (xl_NoSaying : K.lookup A_NoSaying = some (excClassObj nm_NoSaying q_NoSaying A_NoSaying N_NoSaying bs_NoSaying [.ref A_HalfError, .type "ValueError", .type "Exception", .type "BaseException", .type "object"] true sn_NoSaying sub_NoSaying ab_NoSaying col_NoSaying dd_NoSaying m0_NoSaying m1_NoSaying m2_NoSaying m3_NoSaying m5_NoSaying "ValueError.__new__"))
    (sa_NoSaying : PySem.W.findIn K (.ref A_NoSaying) "__setattr__" = some (some (.builtin "object.__setattr__")))
    (i1_NoSaying : PySem.W.findIn K (.ref A_NoSaying) "__init__" = some (some (.ref fI_NoSaying)))
    (t1_NoSaying : PySem.W.typeIn K (.ref fI_NoSaying) = some (.type "function"))
    (l1_NoSaying : K.lookup fI_NoSaying = some ⟨oi_NoSaying, odi_NoSaying, .func (PySem.W.fnOf "__init__" "NoSaying.__init__" (defArgs s_init_NoSaying) (defBody s_init_NoSaying) (defScope s_init_NoSaying) .none kVi_NoSaying dci_NoSaying pmi_NoSaying ani_NoSaying cdi_NoSaying cti_NoSaying), sli_NoSaying⟩)
    (c1_NoSaying : PySem.W.codeIn K cdi_NoSaying "NoSaying.__init__" = true)
    (kk_NoSaying : PySem.W.keepIn K (.ref fI_NoSaying) = true)
    (nf_NoSaying_number : PySem.W.findIn K (.ref A_NoSaying) "number" = some none)
    (ga_NoSaying : PySem.W.findIn K (.ref A_NoSaying) "__getattribute__" = some (some (.builtin "BaseException.__getattribute__")))
    (gg_NoSaying : PySem.W.findIn K (.ref A_NoSaying) "__getattr__" = some none)
    (cl_NoSaying : PySem.W.findIn K (.ref A_NoSaying) "__class__" = some (some (.builtin "object.__class__")))
    (kp_NoSaying : PySem.W.keepIn K (.ref A_NoSaying) = true)
    (eb_NoSaying : PySem.W.subIn K (.ref A_NoSaying) (.type "BaseException") = some true)
    (ty_NoSaying : PySem.W.typeIn K (.ref A_NoSaying) = some (.type "type"))
    (hd_NoSaying : PySem.W.hasDictIn K A_NoSaying = true)
    (mo_NoSaying : PySem.W.mroIn K A_NoSaying (.type "object") = some true)
    {nm_NoText q_NoText : Str} {N_NoText : Addr} {bs_NoText : List Value} {sn_NoText : List Str} {sub_NoText : List Value} {ab_NoText : Bool} {col_NoText : Option Bool} {dd_NoText : Option Addr} {m0_NoText m1_NoText m2_NoText m3_NoText m5_NoText : Option Value} {fI_NoText : Addr} {oi_NoText kVi_NoText dci_NoText pmi_NoText cdi_NoText cti_NoText : Value} {odi_NoText ani_NoText : Option Addr} {sli_NoText : Array (Option Value)}
    (xl_NoText : K.lookup A_NoText = some (excClassObj nm_NoText q_NoText A_NoText N_NoText bs_NoText [.ref A_HalfError, .type "ValueError", .type "Exception", .type "BaseException", .type "object"] true sn_NoText sub_NoText ab_NoText col_NoText dd_NoText m0_NoText m1_NoText m2_NoText m3_NoText m5_NoText "ValueError.__new__"))
    (sa_NoText : PySem.W.findIn K (.ref A_NoText) "__setattr__" = some (some (.builtin "object.__setattr__")))
    (i1_NoText : PySem.W.findIn K (.ref A_NoText) "__init__" = some (some (.ref fI_NoText)))
    (t1_NoText : PySem.W.typeIn K (.ref fI_NoText) = some (.type "function"))
    (l1_NoText : K.lookup fI_NoText = some ⟨oi_NoText, odi_NoText, .func (PySem.W.fnOf "__init__" "NoText.__init__" (defArgs s_init_NoText) (defBody s_init_NoText) (defScope s_init_NoText) .none kVi_NoText dci_NoText pmi_NoText ani_NoText cdi_NoText cti_NoText), sli_NoText⟩)
    (c1_NoText : PySem.W.codeIn K cdi_NoText "NoText.__init__" = true)
    (kk_NoText : PySem.W.keepIn K (.ref fI_NoText) = true)
    (nf_NoText_row : PySem.W.findIn K (.ref A_NoText) "row" = some none)
    (ga_NoText : PySem.W.findIn K (.ref A_NoText) "__getattribute__" = some (some (.builtin "BaseException.__getattribute__")))
    (gg_NoText : PySem.W.findIn K (.ref A_NoText) "__getattr__" = some none)
    (cl_NoText : PySem.W.findIn K (.ref A_NoText) "__class__" = some (some (.builtin "object.__class__")))
    (kp_NoText : PySem.W.keepIn K (.ref A_NoText) = true)
    (eb_NoText : PySem.W.subIn K (.ref A_NoText) (.type "BaseException") = some true)
    (ty_NoText : PySem.W.typeIn K (.ref A_NoText) = some (.type "type"))
    (hd_NoText : PySem.W.hasDictIn K A_NoText = true)
    (mo_NoText : PySem.W.mroIn K A_NoText (.type "object") = some true)
    {nm_TooMany q_TooMany : Str} {N_TooMany : Addr} {bs_TooMany : List Value} {sn_TooMany : List Str} {sub_TooMany : List Value} {ab_TooMany : Bool} {col_TooMany : Option Bool} {dd_TooMany : Option Addr} {m0_TooMany m1_TooMany m2_TooMany m3_TooMany m5_TooMany : Option Value} {fI_TooMany : Addr} {oi_TooMany kVi_TooMany dci_TooMany pmi_TooMany cdi_TooMany cti_TooMany : Value} {odi_TooMany ani_TooMany : Option Addr} {sli_TooMany : Array (Option Value)}
    (xl_TooMany : K.lookup A_TooMany = some (excClassObj nm_TooMany q_TooMany A_TooMany N_TooMany bs_TooMany [.ref A_HalfError, .type "ValueError", .type "Exception", .type "BaseException", .type "object"] true sn_TooMany sub_TooMany ab_TooMany col_TooMany dd_TooMany m0_TooMany m1_TooMany m2_TooMany m3_TooMany m5_TooMany "ValueError.__new__"))
    (sa_TooMany : PySem.W.findIn K (.ref A_TooMany) "__setattr__" = some (some (.builtin "object.__setattr__")))
    (i1_TooMany : PySem.W.findIn K (.ref A_TooMany) "__init__" = some (some (.ref fI_TooMany)))
    (t1_TooMany : PySem.W.typeIn K (.ref fI_TooMany) = some (.type "function"))
    (l1_TooMany : K.lookup fI_TooMany = some ⟨oi_TooMany, odi_TooMany, .func (PySem.W.fnOf "__init__" "TooMany.__init__" (defArgs s_init_TooMany) (defBody s_init_TooMany) (defScope s_init_TooMany) .none kVi_TooMany dci_TooMany pmi_TooMany ani_TooMany cdi_TooMany cti_TooMany), sli_TooMany⟩)
    (c1_TooMany : PySem.W.codeIn K cdi_TooMany "TooMany.__init__" = true)
    (kk_TooMany : PySem.W.keepIn K (.ref fI_TooMany) = true)
    (nf_TooMany_word : PySem.W.findIn K (.ref A_TooMany) "word" = some none)
    (ga_TooMany : PySem.W.findIn K (.ref A_TooMany) "__getattribute__" = some (some (.builtin "BaseException.__getattribute__")))
    (gg_TooMany : PySem.W.findIn K (.ref A_TooMany) "__getattr__" = some none)
    (cl_TooMany : PySem.W.findIn K (.ref A_TooMany) "__class__" = some (some (.builtin "object.__class__")))
    (kp_TooMany : PySem.W.keepIn K (.ref A_TooMany) = true)
    (eb_TooMany : PySem.W.subIn K (.ref A_TooMany) (.type "BaseException") = some true)
    (ty_TooMany : PySem.W.typeIn K (.ref A_TooMany) = some (.type "type"))
    (hd_TooMany : PySem.W.hasDictIn K A_TooMany = true)
    (mo_TooMany : PySem.W.mroIn K A_TooMany (.type "object") = some true)
    (sg0 : PySem.W.specialIn K (.builtin "object.__class__") "__get__" = some (some (.builtin "getset_descriptor.__get__")))
    (tk0 : PySem.W.takesIn K (.builtin "object.__class__") = some true)
    (rd_HalfError : PySem.W.readsIn K A_HalfError (.type "type") = true)
    (sp_HalfError : PySem.W.specialIn K (.ref A_HalfError) "__getattribute__" = some (some (.builtin "type.__getattribute__")))
    (vv_HalfError : PySem.W.findCls K (.ref A_HalfError) (.type "type") "__init__" = some (.val (.builtin "ValueError.__init__")))
    (ko_Clash_Clash : PySem.W.kitOne K (.ref A_Clash) (.ref A_Clash) = some true)
    (ko_Clash_HalfError : PySem.W.kitOne K (.ref A_Clash) (.ref A_HalfError) = some true)
    (ko_Clash_NoBound : PySem.W.kitOne K (.ref A_Clash) (.ref A_NoBound) = some false)
    (ko_Clash_NoCover : PySem.W.kitOne K (.ref A_Clash) (.ref A_NoCover) = some false)
    (ko_Clash_NoHalf : PySem.W.kitOne K (.ref A_Clash) (.ref A_NoHalf) = some false)
    (ko_Clash_NoJoin : PySem.W.kitOne K (.ref A_Clash) (.ref A_NoJoin) = some false)
    (ko_Clash_NoMore : PySem.W.kitOne K (.ref A_Clash) (.ref A_NoMore) = some false)
    (ko_Clash_NoName : PySem.W.kitOne K (.ref A_Clash) (.ref A_NoName) = some false)
    (ko_Clash_NoOrder : PySem.W.kitOne K (.ref A_Clash) (.ref A_NoOrder) = some false)
    (ko_Clash_NoPaper : PySem.W.kitOne K (.ref A_Clash) (.ref A_NoPaper) = some false)
    (ko_Clash_NoPlace : PySem.W.kitOne K (.ref A_Clash) (.ref A_NoPlace) = some false)
    (ko_Clash_NoPlan : PySem.W.kitOne K (.ref A_Clash) (.ref A_NoPlan) = some false)
    (ko_Clash_NoSaying : PySem.W.kitOne K (.ref A_Clash) (.ref A_NoSaying) = some false)
    (ko_Clash_NoText : PySem.W.kitOne K (.ref A_Clash) (.ref A_NoText) = some false)
    (ko_Clash_TooMany : PySem.W.kitOne K (.ref A_Clash) (.ref A_TooMany) = some false)
    (ko_Clash_ValueError : PySem.W.kitOne K (.ref A_Clash) (.type "ValueError") = some true)
    (ko_NoBound_Clash : PySem.W.kitOne K (.ref A_NoBound) (.ref A_Clash) = some false)
    (ko_NoBound_HalfError : PySem.W.kitOne K (.ref A_NoBound) (.ref A_HalfError) = some true)
    (ko_NoBound_NoBound : PySem.W.kitOne K (.ref A_NoBound) (.ref A_NoBound) = some true)
    (ko_NoBound_NoCover : PySem.W.kitOne K (.ref A_NoBound) (.ref A_NoCover) = some false)
    (ko_NoBound_NoHalf : PySem.W.kitOne K (.ref A_NoBound) (.ref A_NoHalf) = some false)
    (ko_NoBound_NoJoin : PySem.W.kitOne K (.ref A_NoBound) (.ref A_NoJoin) = some false)
    (ko_NoBound_NoMore : PySem.W.kitOne K (.ref A_NoBound) (.ref A_NoMore) = some false)
    (ko_NoBound_NoName : PySem.W.kitOne K (.ref A_NoBound) (.ref A_NoName) = some false)
    (ko_NoBound_NoOrder : PySem.W.kitOne K (.ref A_NoBound) (.ref A_NoOrder) = some false)
    (ko_NoBound_NoPaper : PySem.W.kitOne K (.ref A_NoBound) (.ref A_NoPaper) = some false)
    (ko_NoBound_NoPlace : PySem.W.kitOne K (.ref A_NoBound) (.ref A_NoPlace) = some false)
    (ko_NoBound_NoPlan : PySem.W.kitOne K (.ref A_NoBound) (.ref A_NoPlan) = some false)
    (ko_NoBound_NoSaying : PySem.W.kitOne K (.ref A_NoBound) (.ref A_NoSaying) = some false)
    (ko_NoBound_NoText : PySem.W.kitOne K (.ref A_NoBound) (.ref A_NoText) = some false)
    (ko_NoBound_TooMany : PySem.W.kitOne K (.ref A_NoBound) (.ref A_TooMany) = some false)
    (ko_NoBound_ValueError : PySem.W.kitOne K (.ref A_NoBound) (.type "ValueError") = some true)
    (ko_NoCover_Clash : PySem.W.kitOne K (.ref A_NoCover) (.ref A_Clash) = some false)
    (ko_NoCover_HalfError : PySem.W.kitOne K (.ref A_NoCover) (.ref A_HalfError) = some true)
    (ko_NoCover_NoBound : PySem.W.kitOne K (.ref A_NoCover) (.ref A_NoBound) = some false)
    (ko_NoCover_NoCover : PySem.W.kitOne K (.ref A_NoCover) (.ref A_NoCover) = some true)
    (ko_NoCover_NoHalf : PySem.W.kitOne K (.ref A_NoCover) (.ref A_NoHalf) = some false)
    (ko_NoCover_NoJoin : PySem.W.kitOne K (.ref A_NoCover) (.ref A_NoJoin) = some false)
    (ko_NoCover_NoMore : PySem.W.kitOne K (.ref A_NoCover) (.ref A_NoMore) = some false)
    (ko_NoCover_NoName : PySem.W.kitOne K (.ref A_NoCover) (.ref A_NoName) = some false)
    (ko_NoCover_NoOrder : PySem.W.kitOne K (.ref A_NoCover) (.ref A_NoOrder) = some false)
    (ko_NoCover_NoPaper : PySem.W.kitOne K (.ref A_NoCover) (.ref A_NoPaper) = some false)
    (ko_NoCover_NoPlace : PySem.W.kitOne K (.ref A_NoCover) (.ref A_NoPlace) = some false)
    (ko_NoCover_NoPlan : PySem.W.kitOne K (.ref A_NoCover) (.ref A_NoPlan) = some false)
    (ko_NoCover_NoSaying : PySem.W.kitOne K (.ref A_NoCover) (.ref A_NoSaying) = some false)
    (ko_NoCover_NoText : PySem.W.kitOne K (.ref A_NoCover) (.ref A_NoText) = some false)
    (ko_NoCover_TooMany : PySem.W.kitOne K (.ref A_NoCover) (.ref A_TooMany) = some false)
    (ko_NoCover_ValueError : PySem.W.kitOne K (.ref A_NoCover) (.type "ValueError") = some true)
    (ko_NoHalf_Clash : PySem.W.kitOne K (.ref A_NoHalf) (.ref A_Clash) = some false)
    (ko_NoHalf_HalfError : PySem.W.kitOne K (.ref A_NoHalf) (.ref A_HalfError) = some true)
    (ko_NoHalf_NoBound : PySem.W.kitOne K (.ref A_NoHalf) (.ref A_NoBound) = some false)
    (ko_NoHalf_NoCover : PySem.W.kitOne K (.ref A_NoHalf) (.ref A_NoCover) = some false)
    (ko_NoHalf_NoHalf : PySem.W.kitOne K (.ref A_NoHalf) (.ref A_NoHalf) = some true)
    (ko_NoHalf_NoJoin : PySem.W.kitOne K (.ref A_NoHalf) (.ref A_NoJoin) = some false)
    (ko_NoHalf_NoMore : PySem.W.kitOne K (.ref A_NoHalf) (.ref A_NoMore) = some false)
    (ko_NoHalf_NoName : PySem.W.kitOne K (.ref A_NoHalf) (.ref A_NoName) = some false)
    (ko_NoHalf_NoOrder : PySem.W.kitOne K (.ref A_NoHalf) (.ref A_NoOrder) = some false)
    (ko_NoHalf_NoPaper : PySem.W.kitOne K (.ref A_NoHalf) (.ref A_NoPaper) = some false)
    (ko_NoHalf_NoPlace : PySem.W.kitOne K (.ref A_NoHalf) (.ref A_NoPlace) = some false)
    (ko_NoHalf_NoPlan : PySem.W.kitOne K (.ref A_NoHalf) (.ref A_NoPlan) = some false)
    (ko_NoHalf_NoSaying : PySem.W.kitOne K (.ref A_NoHalf) (.ref A_NoSaying) = some false)
    (ko_NoHalf_NoText : PySem.W.kitOne K (.ref A_NoHalf) (.ref A_NoText) = some false)
    (ko_NoHalf_TooMany : PySem.W.kitOne K (.ref A_NoHalf) (.ref A_TooMany) = some false)
    (ko_NoHalf_ValueError : PySem.W.kitOne K (.ref A_NoHalf) (.type "ValueError") = some true)
    (ko_NoJoin_Clash : PySem.W.kitOne K (.ref A_NoJoin) (.ref A_Clash) = some false)
    (ko_NoJoin_HalfError : PySem.W.kitOne K (.ref A_NoJoin) (.ref A_HalfError) = some true)
    (ko_NoJoin_NoBound : PySem.W.kitOne K (.ref A_NoJoin) (.ref A_NoBound) = some false)
    (ko_NoJoin_NoCover : PySem.W.kitOne K (.ref A_NoJoin) (.ref A_NoCover) = some false)
    (ko_NoJoin_NoHalf : PySem.W.kitOne K (.ref A_NoJoin) (.ref A_NoHalf) = some false)
    (ko_NoJoin_NoJoin : PySem.W.kitOne K (.ref A_NoJoin) (.ref A_NoJoin) = some true)
    (ko_NoJoin_NoMore : PySem.W.kitOne K (.ref A_NoJoin) (.ref A_NoMore) = some false)
    (ko_NoJoin_NoName : PySem.W.kitOne K (.ref A_NoJoin) (.ref A_NoName) = some false)
    (ko_NoJoin_NoOrder : PySem.W.kitOne K (.ref A_NoJoin) (.ref A_NoOrder) = some false)
    (ko_NoJoin_NoPaper : PySem.W.kitOne K (.ref A_NoJoin) (.ref A_NoPaper) = some false)
    (ko_NoJoin_NoPlace : PySem.W.kitOne K (.ref A_NoJoin) (.ref A_NoPlace) = some false)
    (ko_NoJoin_NoPlan : PySem.W.kitOne K (.ref A_NoJoin) (.ref A_NoPlan) = some false)
    (ko_NoJoin_NoSaying : PySem.W.kitOne K (.ref A_NoJoin) (.ref A_NoSaying) = some false)
    (ko_NoJoin_NoText : PySem.W.kitOne K (.ref A_NoJoin) (.ref A_NoText) = some false)
    (ko_NoJoin_TooMany : PySem.W.kitOne K (.ref A_NoJoin) (.ref A_TooMany) = some false)
    (ko_NoJoin_ValueError : PySem.W.kitOne K (.ref A_NoJoin) (.type "ValueError") = some true)
    (ko_NoMore_Clash : PySem.W.kitOne K (.ref A_NoMore) (.ref A_Clash) = some false)
    (ko_NoMore_HalfError : PySem.W.kitOne K (.ref A_NoMore) (.ref A_HalfError) = some true)
    (ko_NoMore_NoBound : PySem.W.kitOne K (.ref A_NoMore) (.ref A_NoBound) = some false)
    (ko_NoMore_NoCover : PySem.W.kitOne K (.ref A_NoMore) (.ref A_NoCover) = some false)
    (ko_NoMore_NoHalf : PySem.W.kitOne K (.ref A_NoMore) (.ref A_NoHalf) = some false)
    (ko_NoMore_NoJoin : PySem.W.kitOne K (.ref A_NoMore) (.ref A_NoJoin) = some false)
    (ko_NoMore_NoMore : PySem.W.kitOne K (.ref A_NoMore) (.ref A_NoMore) = some true)
    (ko_NoMore_NoName : PySem.W.kitOne K (.ref A_NoMore) (.ref A_NoName) = some false)
    (ko_NoMore_NoOrder : PySem.W.kitOne K (.ref A_NoMore) (.ref A_NoOrder) = some false)
    (ko_NoMore_NoPaper : PySem.W.kitOne K (.ref A_NoMore) (.ref A_NoPaper) = some false)
    (ko_NoMore_NoPlace : PySem.W.kitOne K (.ref A_NoMore) (.ref A_NoPlace) = some false)
    (ko_NoMore_NoPlan : PySem.W.kitOne K (.ref A_NoMore) (.ref A_NoPlan) = some false)
    (ko_NoMore_NoSaying : PySem.W.kitOne K (.ref A_NoMore) (.ref A_NoSaying) = some false)
    (ko_NoMore_NoText : PySem.W.kitOne K (.ref A_NoMore) (.ref A_NoText) = some false)
    (ko_NoMore_TooMany : PySem.W.kitOne K (.ref A_NoMore) (.ref A_TooMany) = some false)
    (ko_NoMore_ValueError : PySem.W.kitOne K (.ref A_NoMore) (.type "ValueError") = some true)
    (ko_NoName_Clash : PySem.W.kitOne K (.ref A_NoName) (.ref A_Clash) = some false)
    (ko_NoName_HalfError : PySem.W.kitOne K (.ref A_NoName) (.ref A_HalfError) = some true)
    (ko_NoName_NoBound : PySem.W.kitOne K (.ref A_NoName) (.ref A_NoBound) = some false)
    (ko_NoName_NoCover : PySem.W.kitOne K (.ref A_NoName) (.ref A_NoCover) = some false)
    (ko_NoName_NoHalf : PySem.W.kitOne K (.ref A_NoName) (.ref A_NoHalf) = some false)
    (ko_NoName_NoJoin : PySem.W.kitOne K (.ref A_NoName) (.ref A_NoJoin) = some false)
    (ko_NoName_NoMore : PySem.W.kitOne K (.ref A_NoName) (.ref A_NoMore) = some false)
    (ko_NoName_NoName : PySem.W.kitOne K (.ref A_NoName) (.ref A_NoName) = some true)
    (ko_NoName_NoOrder : PySem.W.kitOne K (.ref A_NoName) (.ref A_NoOrder) = some false)
    (ko_NoName_NoPaper : PySem.W.kitOne K (.ref A_NoName) (.ref A_NoPaper) = some false)
    (ko_NoName_NoPlace : PySem.W.kitOne K (.ref A_NoName) (.ref A_NoPlace) = some false)
    (ko_NoName_NoPlan : PySem.W.kitOne K (.ref A_NoName) (.ref A_NoPlan) = some false)
    (ko_NoName_NoSaying : PySem.W.kitOne K (.ref A_NoName) (.ref A_NoSaying) = some false)
    (ko_NoName_NoText : PySem.W.kitOne K (.ref A_NoName) (.ref A_NoText) = some false)
    (ko_NoName_TooMany : PySem.W.kitOne K (.ref A_NoName) (.ref A_TooMany) = some false)
    (ko_NoName_ValueError : PySem.W.kitOne K (.ref A_NoName) (.type "ValueError") = some true)
    (ko_NoOrder_Clash : PySem.W.kitOne K (.ref A_NoOrder) (.ref A_Clash) = some false)
    (ko_NoOrder_HalfError : PySem.W.kitOne K (.ref A_NoOrder) (.ref A_HalfError) = some true)
    (ko_NoOrder_NoBound : PySem.W.kitOne K (.ref A_NoOrder) (.ref A_NoBound) = some false)
    (ko_NoOrder_NoCover : PySem.W.kitOne K (.ref A_NoOrder) (.ref A_NoCover) = some false)
    (ko_NoOrder_NoHalf : PySem.W.kitOne K (.ref A_NoOrder) (.ref A_NoHalf) = some false)
    (ko_NoOrder_NoJoin : PySem.W.kitOne K (.ref A_NoOrder) (.ref A_NoJoin) = some false)
    (ko_NoOrder_NoMore : PySem.W.kitOne K (.ref A_NoOrder) (.ref A_NoMore) = some false)
    (ko_NoOrder_NoName : PySem.W.kitOne K (.ref A_NoOrder) (.ref A_NoName) = some false)
    (ko_NoOrder_NoOrder : PySem.W.kitOne K (.ref A_NoOrder) (.ref A_NoOrder) = some true)
    (ko_NoOrder_NoPaper : PySem.W.kitOne K (.ref A_NoOrder) (.ref A_NoPaper) = some false)
    (ko_NoOrder_NoPlace : PySem.W.kitOne K (.ref A_NoOrder) (.ref A_NoPlace) = some false)
    (ko_NoOrder_NoPlan : PySem.W.kitOne K (.ref A_NoOrder) (.ref A_NoPlan) = some false)
    (ko_NoOrder_NoSaying : PySem.W.kitOne K (.ref A_NoOrder) (.ref A_NoSaying) = some false)
    (ko_NoOrder_NoText : PySem.W.kitOne K (.ref A_NoOrder) (.ref A_NoText) = some false)
    (ko_NoOrder_TooMany : PySem.W.kitOne K (.ref A_NoOrder) (.ref A_TooMany) = some false)
    (ko_NoOrder_ValueError : PySem.W.kitOne K (.ref A_NoOrder) (.type "ValueError") = some true)
    (ko_NoPaper_Clash : PySem.W.kitOne K (.ref A_NoPaper) (.ref A_Clash) = some false)
    (ko_NoPaper_HalfError : PySem.W.kitOne K (.ref A_NoPaper) (.ref A_HalfError) = some true)
    (ko_NoPaper_NoBound : PySem.W.kitOne K (.ref A_NoPaper) (.ref A_NoBound) = some false)
    (ko_NoPaper_NoCover : PySem.W.kitOne K (.ref A_NoPaper) (.ref A_NoCover) = some false)
    (ko_NoPaper_NoHalf : PySem.W.kitOne K (.ref A_NoPaper) (.ref A_NoHalf) = some false)
    (ko_NoPaper_NoJoin : PySem.W.kitOne K (.ref A_NoPaper) (.ref A_NoJoin) = some false)
    (ko_NoPaper_NoMore : PySem.W.kitOne K (.ref A_NoPaper) (.ref A_NoMore) = some false)
    (ko_NoPaper_NoName : PySem.W.kitOne K (.ref A_NoPaper) (.ref A_NoName) = some false)
    (ko_NoPaper_NoOrder : PySem.W.kitOne K (.ref A_NoPaper) (.ref A_NoOrder) = some false)
    (ko_NoPaper_NoPaper : PySem.W.kitOne K (.ref A_NoPaper) (.ref A_NoPaper) = some true)
    (ko_NoPaper_NoPlace : PySem.W.kitOne K (.ref A_NoPaper) (.ref A_NoPlace) = some false)
    (ko_NoPaper_NoPlan : PySem.W.kitOne K (.ref A_NoPaper) (.ref A_NoPlan) = some false)
    (ko_NoPaper_NoSaying : PySem.W.kitOne K (.ref A_NoPaper) (.ref A_NoSaying) = some false)
    (ko_NoPaper_NoText : PySem.W.kitOne K (.ref A_NoPaper) (.ref A_NoText) = some false)
    (ko_NoPaper_TooMany : PySem.W.kitOne K (.ref A_NoPaper) (.ref A_TooMany) = some false)
    (ko_NoPaper_ValueError : PySem.W.kitOne K (.ref A_NoPaper) (.type "ValueError") = some true)
    (ko_NoPlace_Clash : PySem.W.kitOne K (.ref A_NoPlace) (.ref A_Clash) = some false)
    (ko_NoPlace_HalfError : PySem.W.kitOne K (.ref A_NoPlace) (.ref A_HalfError) = some true)
    (ko_NoPlace_NoBound : PySem.W.kitOne K (.ref A_NoPlace) (.ref A_NoBound) = some false)
    (ko_NoPlace_NoCover : PySem.W.kitOne K (.ref A_NoPlace) (.ref A_NoCover) = some false)
    (ko_NoPlace_NoHalf : PySem.W.kitOne K (.ref A_NoPlace) (.ref A_NoHalf) = some false)
    (ko_NoPlace_NoJoin : PySem.W.kitOne K (.ref A_NoPlace) (.ref A_NoJoin) = some false)
    (ko_NoPlace_NoMore : PySem.W.kitOne K (.ref A_NoPlace) (.ref A_NoMore) = some false)
    (ko_NoPlace_NoName : PySem.W.kitOne K (.ref A_NoPlace) (.ref A_NoName) = some false)
    (ko_NoPlace_NoOrder : PySem.W.kitOne K (.ref A_NoPlace) (.ref A_NoOrder) = some false)
    (ko_NoPlace_NoPaper : PySem.W.kitOne K (.ref A_NoPlace) (.ref A_NoPaper) = some false)
    (ko_NoPlace_NoPlace : PySem.W.kitOne K (.ref A_NoPlace) (.ref A_NoPlace) = some true)
    (ko_NoPlace_NoPlan : PySem.W.kitOne K (.ref A_NoPlace) (.ref A_NoPlan) = some false)
    (ko_NoPlace_NoSaying : PySem.W.kitOne K (.ref A_NoPlace) (.ref A_NoSaying) = some false)
    (ko_NoPlace_NoText : PySem.W.kitOne K (.ref A_NoPlace) (.ref A_NoText) = some false)
    (ko_NoPlace_TooMany : PySem.W.kitOne K (.ref A_NoPlace) (.ref A_TooMany) = some false)
    (ko_NoPlace_ValueError : PySem.W.kitOne K (.ref A_NoPlace) (.type "ValueError") = some true)
    (ko_NoPlan_Clash : PySem.W.kitOne K (.ref A_NoPlan) (.ref A_Clash) = some false)
    (ko_NoPlan_HalfError : PySem.W.kitOne K (.ref A_NoPlan) (.ref A_HalfError) = some true)
    (ko_NoPlan_NoBound : PySem.W.kitOne K (.ref A_NoPlan) (.ref A_NoBound) = some false)
    (ko_NoPlan_NoCover : PySem.W.kitOne K (.ref A_NoPlan) (.ref A_NoCover) = some false)
    (ko_NoPlan_NoHalf : PySem.W.kitOne K (.ref A_NoPlan) (.ref A_NoHalf) = some false)
    (ko_NoPlan_NoJoin : PySem.W.kitOne K (.ref A_NoPlan) (.ref A_NoJoin) = some false)
    (ko_NoPlan_NoMore : PySem.W.kitOne K (.ref A_NoPlan) (.ref A_NoMore) = some false)
    (ko_NoPlan_NoName : PySem.W.kitOne K (.ref A_NoPlan) (.ref A_NoName) = some false)
    (ko_NoPlan_NoOrder : PySem.W.kitOne K (.ref A_NoPlan) (.ref A_NoOrder) = some false)
    (ko_NoPlan_NoPaper : PySem.W.kitOne K (.ref A_NoPlan) (.ref A_NoPaper) = some false)
    (ko_NoPlan_NoPlace : PySem.W.kitOne K (.ref A_NoPlan) (.ref A_NoPlace) = some false)
    (ko_NoPlan_NoPlan : PySem.W.kitOne K (.ref A_NoPlan) (.ref A_NoPlan) = some true)
    (ko_NoPlan_NoSaying : PySem.W.kitOne K (.ref A_NoPlan) (.ref A_NoSaying) = some false)
    (ko_NoPlan_NoText : PySem.W.kitOne K (.ref A_NoPlan) (.ref A_NoText) = some false)
    (ko_NoPlan_TooMany : PySem.W.kitOne K (.ref A_NoPlan) (.ref A_TooMany) = some false)
    (ko_NoPlan_ValueError : PySem.W.kitOne K (.ref A_NoPlan) (.type "ValueError") = some true)
    (ko_NoSaying_Clash : PySem.W.kitOne K (.ref A_NoSaying) (.ref A_Clash) = some false)
    (ko_NoSaying_HalfError : PySem.W.kitOne K (.ref A_NoSaying) (.ref A_HalfError) = some true)
    (ko_NoSaying_NoBound : PySem.W.kitOne K (.ref A_NoSaying) (.ref A_NoBound) = some false)
    (ko_NoSaying_NoCover : PySem.W.kitOne K (.ref A_NoSaying) (.ref A_NoCover) = some false)
    (ko_NoSaying_NoHalf : PySem.W.kitOne K (.ref A_NoSaying) (.ref A_NoHalf) = some false)
    (ko_NoSaying_NoJoin : PySem.W.kitOne K (.ref A_NoSaying) (.ref A_NoJoin) = some false)
    (ko_NoSaying_NoMore : PySem.W.kitOne K (.ref A_NoSaying) (.ref A_NoMore) = some false)
    (ko_NoSaying_NoName : PySem.W.kitOne K (.ref A_NoSaying) (.ref A_NoName) = some false)
    (ko_NoSaying_NoOrder : PySem.W.kitOne K (.ref A_NoSaying) (.ref A_NoOrder) = some false)
    (ko_NoSaying_NoPaper : PySem.W.kitOne K (.ref A_NoSaying) (.ref A_NoPaper) = some false)
    (ko_NoSaying_NoPlace : PySem.W.kitOne K (.ref A_NoSaying) (.ref A_NoPlace) = some false)
    (ko_NoSaying_NoPlan : PySem.W.kitOne K (.ref A_NoSaying) (.ref A_NoPlan) = some false)
    (ko_NoSaying_NoSaying : PySem.W.kitOne K (.ref A_NoSaying) (.ref A_NoSaying) = some true)
    (ko_NoSaying_NoText : PySem.W.kitOne K (.ref A_NoSaying) (.ref A_NoText) = some false)
    (ko_NoSaying_TooMany : PySem.W.kitOne K (.ref A_NoSaying) (.ref A_TooMany) = some false)
    (ko_NoSaying_ValueError : PySem.W.kitOne K (.ref A_NoSaying) (.type "ValueError") = some true)
    (ko_NoText_Clash : PySem.W.kitOne K (.ref A_NoText) (.ref A_Clash) = some false)
    (ko_NoText_HalfError : PySem.W.kitOne K (.ref A_NoText) (.ref A_HalfError) = some true)
    (ko_NoText_NoBound : PySem.W.kitOne K (.ref A_NoText) (.ref A_NoBound) = some false)
    (ko_NoText_NoCover : PySem.W.kitOne K (.ref A_NoText) (.ref A_NoCover) = some false)
    (ko_NoText_NoHalf : PySem.W.kitOne K (.ref A_NoText) (.ref A_NoHalf) = some false)
    (ko_NoText_NoJoin : PySem.W.kitOne K (.ref A_NoText) (.ref A_NoJoin) = some false)
    (ko_NoText_NoMore : PySem.W.kitOne K (.ref A_NoText) (.ref A_NoMore) = some false)
    (ko_NoText_NoName : PySem.W.kitOne K (.ref A_NoText) (.ref A_NoName) = some false)
    (ko_NoText_NoOrder : PySem.W.kitOne K (.ref A_NoText) (.ref A_NoOrder) = some false)
    (ko_NoText_NoPaper : PySem.W.kitOne K (.ref A_NoText) (.ref A_NoPaper) = some false)
    (ko_NoText_NoPlace : PySem.W.kitOne K (.ref A_NoText) (.ref A_NoPlace) = some false)
    (ko_NoText_NoPlan : PySem.W.kitOne K (.ref A_NoText) (.ref A_NoPlan) = some false)
    (ko_NoText_NoSaying : PySem.W.kitOne K (.ref A_NoText) (.ref A_NoSaying) = some false)
    (ko_NoText_NoText : PySem.W.kitOne K (.ref A_NoText) (.ref A_NoText) = some true)
    (ko_NoText_TooMany : PySem.W.kitOne K (.ref A_NoText) (.ref A_TooMany) = some false)
    (ko_NoText_ValueError : PySem.W.kitOne K (.ref A_NoText) (.type "ValueError") = some true)
    (ko_TooMany_Clash : PySem.W.kitOne K (.ref A_TooMany) (.ref A_Clash) = some false)
    (ko_TooMany_HalfError : PySem.W.kitOne K (.ref A_TooMany) (.ref A_HalfError) = some true)
    (ko_TooMany_NoBound : PySem.W.kitOne K (.ref A_TooMany) (.ref A_NoBound) = some false)
    (ko_TooMany_NoCover : PySem.W.kitOne K (.ref A_TooMany) (.ref A_NoCover) = some false)
    (ko_TooMany_NoHalf : PySem.W.kitOne K (.ref A_TooMany) (.ref A_NoHalf) = some false)
    (ko_TooMany_NoJoin : PySem.W.kitOne K (.ref A_TooMany) (.ref A_NoJoin) = some false)
    (ko_TooMany_NoMore : PySem.W.kitOne K (.ref A_TooMany) (.ref A_NoMore) = some false)
    (ko_TooMany_NoName : PySem.W.kitOne K (.ref A_TooMany) (.ref A_NoName) = some false)
    (ko_TooMany_NoOrder : PySem.W.kitOne K (.ref A_TooMany) (.ref A_NoOrder) = some false)
    (ko_TooMany_NoPaper : PySem.W.kitOne K (.ref A_TooMany) (.ref A_NoPaper) = some false)
    (ko_TooMany_NoPlace : PySem.W.kitOne K (.ref A_TooMany) (.ref A_NoPlace) = some false)
    (ko_TooMany_NoPlan : PySem.W.kitOne K (.ref A_TooMany) (.ref A_NoPlan) = some false)
    (ko_TooMany_NoSaying : PySem.W.kitOne K (.ref A_TooMany) (.ref A_NoSaying) = some false)
    (ko_TooMany_NoText : PySem.W.kitOne K (.ref A_TooMany) (.ref A_NoText) = some false)
    (ko_TooMany_TooMany : PySem.W.kitOne K (.ref A_TooMany) (.ref A_TooMany) = some true)
    (ko_TooMany_ValueError : PySem.W.kitOne K (.ref A_TooMany) (.type "ValueError") = some true)
    (z_ValueError : PySem.W.nsIn K mainGlobals "ValueError" = some none)
    (z_int : PySem.W.nsIn K mainGlobals "int" = some none)
    (z_isinstance : PySem.W.nsIn K mainGlobals "isinstance" = some none)
    (z_len : PySem.W.nsIn K mainGlobals "len" = some none)
    (z_list : PySem.W.nsIn K mainGlobals "list" = some none)
    (z_range : PySem.W.nsIn K mainGlobals "range" = some none)
    (z_repr : PySem.W.nsIn K mainGlobals "repr" = some none)
    (z_tuple : PySem.W.nsIn K mainGlobals "tuple" = some none)
    : ∃ fd : FuncData, (∀ (s : Shared) (u : Value), BindsTo s fd ⟨[u], []⟩ [("_law_script", u)]) ∧ ∀ b : Heap, K.In b → b.Ns mainGlobals mg → FnG P w K mg b CX0 3 fa fd ["_law_script"] (spV K mg 1 [.leaf] 0 .leaf g_law) := by
  have e := hfa.symm.trans (PySem.W.mg_of X G a5)
  cases e
  have gs : Gs mg := ⟨PySem.W.mg_none_of X G z_ValueError, PySem.W.mg_none_of X G z_int, PySem.W.mg_none_of X G z_isinstance, PySem.W.mg_none_of X G z_len, PySem.W.mg_none_of X G z_list, PySem.W.mg_none_of X G z_range, PySem.W.mg_none_of X G z_repr, PySem.W.mg_none_of X G z_tuple⟩
  have F0 := fun_mk (st := s__law_feed) l0 e0 k0
  have F1 := fun_mk (st := s__law_draw) l1 e1 k1
  have F2 := fun_mk (st := s__law_names) l2 e2 k2
  have F3 := fun_mk (st := s__law_kinds) l3 e3 k3
  have F4 := fun_mk (st := s__law_own) l4 e4 k4
  have F5 := fun_mk (st := s_law) l5 e5 k5
  refine ⟨PySem.W.fnOf "law" "law" (defArgs s_law) (defBody s_law) (defScope s_law) .none kV5 dc5 pm5 an5 cd5 ct5, fun s v => .of_eq rfl, fun b _ _ => ?_⟩
  have gg_Clash_ := PySem.W.mg_of X G ac_Clash
  have gg_HalfError_ := PySem.W.mg_of X G ac_HalfError
  have gg_NoBound_ := PySem.W.mg_of X G ac_NoBound
  have gg_NoCover_ := PySem.W.mg_of X G ac_NoCover
  have gg_NoHalf_ := PySem.W.mg_of X G ac_NoHalf
  have gg_NoJoin_ := PySem.W.mg_of X G ac_NoJoin
  have gg_NoMore_ := PySem.W.mg_of X G ac_NoMore
  have gg_NoName_ := PySem.W.mg_of X G ac_NoName
  have gg_NoOrder_ := PySem.W.mg_of X G ac_NoOrder
  have gg_NoPaper_ := PySem.W.mg_of X G ac_NoPaper
  have gg_NoPlace_ := PySem.W.mg_of X G ac_NoPlace
  have gg_NoPlan_ := PySem.W.mg_of X G ac_NoPlan
  have gg_NoSaying_ := PySem.W.mg_of X G ac_NoSaying
  have gg_NoText_ := PySem.W.mg_of X G ac_NoText
  have gg_TooMany_ := PySem.W.mg_of X G ac_TooMany
  have ox_Clash : OexC K A_Clash := ⟨⟨nm_Clash, q_Clash, N_Clash, bs_Clash, _, sn_Clash, sub_Clash, ab_Clash, col_Clash, dd_Clash, m0_Clash, m1_Clash, m2_Clash, m3_Clash, m5_Clash, xl_Clash, rfl⟩, sa_Clash, eb_Clash, ty_Clash, kp_Clash⟩
  have FI_Clash := fun_mk (st := s_init_Clash) l1_Clash c1_Clash kk_Clash
  have bI_Clash := FI_Clash.binds (ps := ["self", "way"]) fun _ _ _ _ _ _ us hl => match us, hl with | [_, _], _ => rfl
  have zz_Clash : ExK P w K mg b "Clash" ["way"] A_Clash := exK_of gg_Clash_ ox_Clash i1_Clash t1_Clash (in_Clash (w := w) (base := b) FI_Clash gg_HalfError_ ⟨rd_HalfError, sp_HalfError⟩ vv_HalfError ox_Clash nf_Clash_way) bI_Clash
  have ox_NoBound : OexC K A_NoBound := ⟨⟨nm_NoBound, q_NoBound, N_NoBound, bs_NoBound, _, sn_NoBound, sub_NoBound, ab_NoBound, col_NoBound, dd_NoBound, m0_NoBound, m1_NoBound, m2_NoBound, m3_NoBound, m5_NoBound, xl_NoBound, rfl⟩, sa_NoBound, eb_NoBound, ty_NoBound, kp_NoBound⟩
  have FI_NoBound := fun_mk (st := s_init_NoBound) l1_NoBound c1_NoBound kk_NoBound
  have bI_NoBound := FI_NoBound.binds (ps := ["self", "word", "row"]) fun _ _ _ _ _ _ us hl => match us, hl with | [_, _, _], _ => rfl
  have zz_NoBound : ExK P w K mg b "NoBound" ["word", "row"] A_NoBound := exK_of gg_NoBound_ ox_NoBound i1_NoBound t1_NoBound (in_NoBound (w := w) (base := b) FI_NoBound gg_HalfError_ ⟨rd_HalfError, sp_HalfError⟩ vv_HalfError ox_NoBound nf_NoBound_word nf_NoBound_row) bI_NoBound
  have zz_NoCover : ExN K mg "NoCover" A_NoCover := ⟨gg_NoCover_, ⟨_, _, _, _, PySem.F.excBase_ValueError, xq_NoCover⟩, kp_NoCover, eb_NoCover, ty_NoCover⟩
  have ox_NoHalf : OexC K A_NoHalf := ⟨⟨nm_NoHalf, q_NoHalf, N_NoHalf, bs_NoHalf, _, sn_NoHalf, sub_NoHalf, ab_NoHalf, col_NoHalf, dd_NoHalf, m0_NoHalf, m1_NoHalf, m2_NoHalf, m3_NoHalf, m5_NoHalf, xl_NoHalf, rfl⟩, sa_NoHalf, eb_NoHalf, ty_NoHalf, kp_NoHalf⟩
  have FI_NoHalf := fun_mk (st := s_init_NoHalf) l1_NoHalf c1_NoHalf kk_NoHalf
  have bI_NoHalf := FI_NoHalf.binds (ps := ["self", "word", "number"]) fun _ _ _ _ _ _ us hl => match us, hl with | [_, _, _], _ => rfl
  have zz_NoHalf : ExK P w K mg b "NoHalf" ["word", "number"] A_NoHalf := exK_of gg_NoHalf_ ox_NoHalf i1_NoHalf t1_NoHalf (in_NoHalf (w := w) (base := b) FI_NoHalf gg_HalfError_ ⟨rd_HalfError, sp_HalfError⟩ vv_HalfError ox_NoHalf nf_NoHalf_word nf_NoHalf_number) bI_NoHalf
  have ox_NoJoin : OexC K A_NoJoin := ⟨⟨nm_NoJoin, q_NoJoin, N_NoJoin, bs_NoJoin, _, sn_NoJoin, sub_NoJoin, ab_NoJoin, col_NoJoin, dd_NoJoin, m0_NoJoin, m1_NoJoin, m2_NoJoin, m3_NoJoin, m5_NoJoin, xl_NoJoin, rfl⟩, sa_NoJoin, eb_NoJoin, ty_NoJoin, kp_NoJoin⟩
  have FI_NoJoin := fun_mk (st := s_init_NoJoin) l1_NoJoin c1_NoJoin kk_NoJoin
  have bI_NoJoin := FI_NoJoin.binds (ps := ["self", "word"]) fun _ _ _ _ _ _ us hl => match us, hl with | [_, _], _ => rfl
  have zz_NoJoin : ExK P w K mg b "NoJoin" ["word"] A_NoJoin := exK_of gg_NoJoin_ ox_NoJoin i1_NoJoin t1_NoJoin (in_NoJoin (w := w) (base := b) FI_NoJoin gg_HalfError_ ⟨rd_HalfError, sp_HalfError⟩ vv_HalfError ox_NoJoin nf_NoJoin_word) bI_NoJoin
  have zz_NoMore : ExN K mg "NoMore" A_NoMore := ⟨gg_NoMore_, ⟨_, _, _, _, PySem.F.excBase_ValueError, xq_NoMore⟩, kp_NoMore, eb_NoMore, ty_NoMore⟩
  have ox_NoName : OexC K A_NoName := ⟨⟨nm_NoName, q_NoName, N_NoName, bs_NoName, _, sn_NoName, sub_NoName, ab_NoName, col_NoName, dd_NoName, m0_NoName, m1_NoName, m2_NoName, m3_NoName, m5_NoName, xl_NoName, rfl⟩, sa_NoName, eb_NoName, ty_NoName, kp_NoName⟩
  have FI_NoName := fun_mk (st := s_init_NoName) l1_NoName c1_NoName kk_NoName
  have bI_NoName := FI_NoName.binds (ps := ["self", "name"]) fun _ _ _ _ _ _ us hl => match us, hl with | [_, _], _ => rfl
  have zz_NoName : ExK P w K mg b "NoName" ["name"] A_NoName := exK_of gg_NoName_ ox_NoName i1_NoName t1_NoName (in_NoName (w := w) (base := b) FI_NoName gg_HalfError_ ⟨rd_HalfError, sp_HalfError⟩ vv_HalfError ox_NoName nf_NoName_name) bI_NoName
  have zz_NoOrder : ExN K mg "NoOrder" A_NoOrder := ⟨gg_NoOrder_, ⟨_, _, _, _, PySem.F.excBase_ValueError, xq_NoOrder⟩, kp_NoOrder, eb_NoOrder, ty_NoOrder⟩
  have ox_NoPaper : OexC K A_NoPaper := ⟨⟨nm_NoPaper, q_NoPaper, N_NoPaper, bs_NoPaper, _, sn_NoPaper, sub_NoPaper, ab_NoPaper, col_NoPaper, dd_NoPaper, m0_NoPaper, m1_NoPaper, m2_NoPaper, m3_NoPaper, m5_NoPaper, xl_NoPaper, rfl⟩, sa_NoPaper, eb_NoPaper, ty_NoPaper, kp_NoPaper⟩
  have FI_NoPaper := fun_mk (st := s_init_NoPaper) l1_NoPaper c1_NoPaper kk_NoPaper
  have bI_NoPaper := FI_NoPaper.binds (ps := ["self", "word", "row"]) fun _ _ _ _ _ _ us hl => match us, hl with | [_, _, _], _ => rfl
  have zz_NoPaper : ExK P w K mg b "NoPaper" ["word", "row"] A_NoPaper := exK_of gg_NoPaper_ ox_NoPaper i1_NoPaper t1_NoPaper (in_NoPaper (w := w) (base := b) FI_NoPaper gg_HalfError_ ⟨rd_HalfError, sp_HalfError⟩ vv_HalfError ox_NoPaper nf_NoPaper_word nf_NoPaper_row) bI_NoPaper
  have ox_NoPlace : OexC K A_NoPlace := ⟨⟨nm_NoPlace, q_NoPlace, N_NoPlace, bs_NoPlace, _, sn_NoPlace, sub_NoPlace, ab_NoPlace, col_NoPlace, dd_NoPlace, m0_NoPlace, m1_NoPlace, m2_NoPlace, m3_NoPlace, m5_NoPlace, xl_NoPlace, rfl⟩, sa_NoPlace, eb_NoPlace, ty_NoPlace, kp_NoPlace⟩
  have FI_NoPlace := fun_mk (st := s_init_NoPlace) l1_NoPlace c1_NoPlace kk_NoPlace
  have bI_NoPlace := FI_NoPlace.binds (ps := ["self", "number"]) fun _ _ _ _ _ _ us hl => match us, hl with | [_, _], _ => rfl
  have zz_NoPlace : ExK P w K mg b "NoPlace" ["number"] A_NoPlace := exK_of gg_NoPlace_ ox_NoPlace i1_NoPlace t1_NoPlace (in_NoPlace (w := w) (base := b) FI_NoPlace gg_HalfError_ ⟨rd_HalfError, sp_HalfError⟩ vv_HalfError ox_NoPlace nf_NoPlace_number) bI_NoPlace
  have ox_NoPlan : OexC K A_NoPlan := ⟨⟨nm_NoPlan, q_NoPlan, N_NoPlan, bs_NoPlan, _, sn_NoPlan, sub_NoPlan, ab_NoPlan, col_NoPlan, dd_NoPlan, m0_NoPlan, m1_NoPlan, m2_NoPlan, m3_NoPlan, m5_NoPlan, xl_NoPlan, rfl⟩, sa_NoPlan, eb_NoPlan, ty_NoPlan, kp_NoPlan⟩
  have FI_NoPlan := fun_mk (st := s_init_NoPlan) l1_NoPlan c1_NoPlan kk_NoPlan
  have bI_NoPlan := FI_NoPlan.binds (ps := ["self", "word", "path"]) fun _ _ _ _ _ _ us hl => match us, hl with | [_, _, _], _ => rfl
  have zz_NoPlan : ExK P w K mg b "NoPlan" ["word", "path"] A_NoPlan := exK_of gg_NoPlan_ ox_NoPlan i1_NoPlan t1_NoPlan (in_NoPlan (w := w) (base := b) FI_NoPlan gg_HalfError_ ⟨rd_HalfError, sp_HalfError⟩ vv_HalfError ox_NoPlan nf_NoPlan_word nf_NoPlan_path) bI_NoPlan
  have ox_NoSaying : OexC K A_NoSaying := ⟨⟨nm_NoSaying, q_NoSaying, N_NoSaying, bs_NoSaying, _, sn_NoSaying, sub_NoSaying, ab_NoSaying, col_NoSaying, dd_NoSaying, m0_NoSaying, m1_NoSaying, m2_NoSaying, m3_NoSaying, m5_NoSaying, xl_NoSaying, rfl⟩, sa_NoSaying, eb_NoSaying, ty_NoSaying, kp_NoSaying⟩
  have FI_NoSaying := fun_mk (st := s_init_NoSaying) l1_NoSaying c1_NoSaying kk_NoSaying
  have bI_NoSaying := FI_NoSaying.binds (ps := ["self", "number"]) fun _ _ _ _ _ _ us hl => match us, hl with | [_, _], _ => rfl
  have zz_NoSaying : ExK P w K mg b "NoSaying" ["number"] A_NoSaying := exK_of gg_NoSaying_ ox_NoSaying i1_NoSaying t1_NoSaying (in_NoSaying (w := w) (base := b) FI_NoSaying gg_HalfError_ ⟨rd_HalfError, sp_HalfError⟩ vv_HalfError ox_NoSaying nf_NoSaying_number) bI_NoSaying
  have ox_NoText : OexC K A_NoText := ⟨⟨nm_NoText, q_NoText, N_NoText, bs_NoText, _, sn_NoText, sub_NoText, ab_NoText, col_NoText, dd_NoText, m0_NoText, m1_NoText, m2_NoText, m3_NoText, m5_NoText, xl_NoText, rfl⟩, sa_NoText, eb_NoText, ty_NoText, kp_NoText⟩
  have FI_NoText := fun_mk (st := s_init_NoText) l1_NoText c1_NoText kk_NoText
  have bI_NoText := FI_NoText.binds (ps := ["self", "row"]) fun _ _ _ _ _ _ us hl => match us, hl with | [_, _], _ => rfl
  have zz_NoText : ExK P w K mg b "NoText" ["row"] A_NoText := exK_of gg_NoText_ ox_NoText i1_NoText t1_NoText (in_NoText (w := w) (base := b) FI_NoText gg_HalfError_ ⟨rd_HalfError, sp_HalfError⟩ vv_HalfError ox_NoText nf_NoText_row) bI_NoText
  have ox_TooMany : OexC K A_TooMany := ⟨⟨nm_TooMany, q_TooMany, N_TooMany, bs_TooMany, _, sn_TooMany, sub_TooMany, ab_TooMany, col_TooMany, dd_TooMany, m0_TooMany, m1_TooMany, m2_TooMany, m3_TooMany, m5_TooMany, xl_TooMany, rfl⟩, sa_TooMany, eb_TooMany, ty_TooMany, kp_TooMany⟩
  have FI_TooMany := fun_mk (st := s_init_TooMany) l1_TooMany c1_TooMany kk_TooMany
  have bI_TooMany := FI_TooMany.binds (ps := ["self", "word"]) fun _ _ _ _ _ _ us hl => match us, hl with | [_, _], _ => rfl
  have zz_TooMany : ExK P w K mg b "TooMany" ["word"] A_TooMany := exK_of gg_TooMany_ ox_TooMany i1_TooMany t1_TooMany (in_TooMany (w := w) (base := b) FI_TooMany gg_HalfError_ ⟨rd_HalfError, sp_HalfError⟩ vv_HalfError ox_TooMany nf_TooMany_word) bI_TooMany
  have zs : Xs w K mg b A_Clash A_HalfError A_NoBound A_NoCover A_NoHalf A_NoJoin A_NoMore A_NoName A_NoOrder A_NoPaper A_NoPlace A_NoPlan A_NoSaying A_NoText A_TooMany := ⟨gg_Clash_, gg_HalfError_, gg_NoBound_, gg_NoCover_, gg_NoHalf_, gg_NoJoin_, gg_NoMore_, gg_NoName_, gg_NoOrder_, gg_NoPaper_, gg_NoPlace_, gg_NoPlan_, gg_NoSaying_, gg_NoText_, gg_TooMany_, zz_Clash, ⟨ga_Clash, gg_Clash, eb_Clash, hd_Clash⟩, ⟨ga_Clash, gg_Clash, eb_Clash, hd_Clash, cl_Clash, sg0, tk0, mo_Clash⟩, ac_Clash, nf_Clash_way, zz_NoBound, ⟨ga_NoBound, gg_NoBound, eb_NoBound, hd_NoBound⟩, ⟨ga_NoBound, gg_NoBound, eb_NoBound, hd_NoBound, cl_NoBound, sg0, tk0, mo_NoBound⟩, ac_NoBound, nf_NoBound_word, nf_NoBound_row, zz_NoCover, ⟨ga_NoCover, gg_NoCover, eb_NoCover, hd_NoCover⟩, ⟨ga_NoCover, gg_NoCover, eb_NoCover, hd_NoCover, cl_NoCover, sg0, tk0, mo_NoCover⟩, ac_NoCover, zz_NoHalf, ⟨ga_NoHalf, gg_NoHalf, eb_NoHalf, hd_NoHalf⟩, ⟨ga_NoHalf, gg_NoHalf, eb_NoHalf, hd_NoHalf, cl_NoHalf, sg0, tk0, mo_NoHalf⟩, ac_NoHalf, nf_NoHalf_word, nf_NoHalf_number, zz_NoJoin, ⟨ga_NoJoin, gg_NoJoin, eb_NoJoin, hd_NoJoin⟩, ⟨ga_NoJoin, gg_NoJoin, eb_NoJoin, hd_NoJoin, cl_NoJoin, sg0, tk0, mo_NoJoin⟩, ac_NoJoin, nf_NoJoin_word, zz_NoMore, ⟨ga_NoMore, gg_NoMore, eb_NoMore, hd_NoMore⟩, ⟨ga_NoMore, gg_NoMore, eb_NoMore, hd_NoMore, cl_NoMore, sg0, tk0, mo_NoMore⟩, ac_NoMore, zz_NoName, ⟨ga_NoName, gg_NoName, eb_NoName, hd_NoName⟩, ⟨ga_NoName, gg_NoName, eb_NoName, hd_NoName, cl_NoName, sg0, tk0, mo_NoName⟩, ac_NoName, nf_NoName_name, zz_NoOrder, ⟨ga_NoOrder, gg_NoOrder, eb_NoOrder, hd_NoOrder⟩, ⟨ga_NoOrder, gg_NoOrder, eb_NoOrder, hd_NoOrder, cl_NoOrder, sg0, tk0, mo_NoOrder⟩, ac_NoOrder, zz_NoPaper, ⟨ga_NoPaper, gg_NoPaper, eb_NoPaper, hd_NoPaper⟩, ⟨ga_NoPaper, gg_NoPaper, eb_NoPaper, hd_NoPaper, cl_NoPaper, sg0, tk0, mo_NoPaper⟩, ac_NoPaper, nf_NoPaper_word, nf_NoPaper_row, zz_NoPlace, ⟨ga_NoPlace, gg_NoPlace, eb_NoPlace, hd_NoPlace⟩, ⟨ga_NoPlace, gg_NoPlace, eb_NoPlace, hd_NoPlace, cl_NoPlace, sg0, tk0, mo_NoPlace⟩, ac_NoPlace, nf_NoPlace_number, zz_NoPlan, ⟨ga_NoPlan, gg_NoPlan, eb_NoPlan, hd_NoPlan⟩, ⟨ga_NoPlan, gg_NoPlan, eb_NoPlan, hd_NoPlan, cl_NoPlan, sg0, tk0, mo_NoPlan⟩, ac_NoPlan, nf_NoPlan_word, nf_NoPlan_path, zz_NoSaying, ⟨ga_NoSaying, gg_NoSaying, eb_NoSaying, hd_NoSaying⟩, ⟨ga_NoSaying, gg_NoSaying, eb_NoSaying, hd_NoSaying, cl_NoSaying, sg0, tk0, mo_NoSaying⟩, ac_NoSaying, nf_NoSaying_number, zz_NoText, ⟨ga_NoText, gg_NoText, eb_NoText, hd_NoText⟩, ⟨ga_NoText, gg_NoText, eb_NoText, hd_NoText, cl_NoText, sg0, tk0, mo_NoText⟩, ac_NoText, nf_NoText_row, zz_TooMany, ⟨ga_TooMany, gg_TooMany, eb_TooMany, hd_TooMany⟩, ⟨ga_TooMany, gg_TooMany, eb_TooMany, hd_TooMany, cl_TooMany, sg0, tk0, mo_TooMany⟩, ac_TooMany, nf_TooMany_word, ko_Clash_Clash, ko_Clash_HalfError, ko_Clash_NoBound, ko_Clash_NoCover, ko_Clash_NoHalf, ko_Clash_NoJoin, ko_Clash_NoMore, ko_Clash_NoName, ko_Clash_NoOrder, ko_Clash_NoPaper, ko_Clash_NoPlace, ko_Clash_NoPlan, ko_Clash_NoSaying, ko_Clash_NoText, ko_Clash_TooMany, ko_Clash_ValueError, ko_NoBound_Clash, ko_NoBound_HalfError, ko_NoBound_NoBound, ko_NoBound_NoCover, ko_NoBound_NoHalf, ko_NoBound_NoJoin, ko_NoBound_NoMore, ko_NoBound_NoName, ko_NoBound_NoOrder, ko_NoBound_NoPaper, ko_NoBound_NoPlace, ko_NoBound_NoPlan, ko_NoBound_NoSaying, ko_NoBound_NoText, ko_NoBound_TooMany, ko_NoBound_ValueError, ko_NoCover_Clash, ko_NoCover_HalfError, ko_NoCover_NoBound, ko_NoCover_NoCover, ko_NoCover_NoHalf, ko_NoCover_NoJoin, ko_NoCover_NoMore, ko_NoCover_NoName, ko_NoCover_NoOrder, ko_NoCover_NoPaper, ko_NoCover_NoPlace, ko_NoCover_NoPlan, ko_NoCover_NoSaying, ko_NoCover_NoText, ko_NoCover_TooMany, ko_NoCover_ValueError, ko_NoHalf_Clash, ko_NoHalf_HalfError, ko_NoHalf_NoBound, ko_NoHalf_NoCover, ko_NoHalf_NoHalf, ko_NoHalf_NoJoin, ko_NoHalf_NoMore, ko_NoHalf_NoName, ko_NoHalf_NoOrder, ko_NoHalf_NoPaper, ko_NoHalf_NoPlace, ko_NoHalf_NoPlan, ko_NoHalf_NoSaying, ko_NoHalf_NoText, ko_NoHalf_TooMany, ko_NoHalf_ValueError, ko_NoJoin_Clash, ko_NoJoin_HalfError, ko_NoJoin_NoBound, ko_NoJoin_NoCover, ko_NoJoin_NoHalf, ko_NoJoin_NoJoin, ko_NoJoin_NoMore, ko_NoJoin_NoName, ko_NoJoin_NoOrder, ko_NoJoin_NoPaper, ko_NoJoin_NoPlace, ko_NoJoin_NoPlan, ko_NoJoin_NoSaying, ko_NoJoin_NoText, ko_NoJoin_TooMany, ko_NoJoin_ValueError, ko_NoMore_Clash, ko_NoMore_HalfError, ko_NoMore_NoBound, ko_NoMore_NoCover, ko_NoMore_NoHalf, ko_NoMore_NoJoin, ko_NoMore_NoMore, ko_NoMore_NoName, ko_NoMore_NoOrder, ko_NoMore_NoPaper, ko_NoMore_NoPlace, ko_NoMore_NoPlan, ko_NoMore_NoSaying, ko_NoMore_NoText, ko_NoMore_TooMany, ko_NoMore_ValueError, ko_NoName_Clash, ko_NoName_HalfError, ko_NoName_NoBound, ko_NoName_NoCover, ko_NoName_NoHalf, ko_NoName_NoJoin, ko_NoName_NoMore, ko_NoName_NoName, ko_NoName_NoOrder, ko_NoName_NoPaper, ko_NoName_NoPlace, ko_NoName_NoPlan, ko_NoName_NoSaying, ko_NoName_NoText, ko_NoName_TooMany, ko_NoName_ValueError, ko_NoOrder_Clash, ko_NoOrder_HalfError, ko_NoOrder_NoBound, ko_NoOrder_NoCover, ko_NoOrder_NoHalf, ko_NoOrder_NoJoin, ko_NoOrder_NoMore, ko_NoOrder_NoName, ko_NoOrder_NoOrder, ko_NoOrder_NoPaper, ko_NoOrder_NoPlace, ko_NoOrder_NoPlan, ko_NoOrder_NoSaying, ko_NoOrder_NoText, ko_NoOrder_TooMany, ko_NoOrder_ValueError, ko_NoPaper_Clash, ko_NoPaper_HalfError, ko_NoPaper_NoBound, ko_NoPaper_NoCover, ko_NoPaper_NoHalf, ko_NoPaper_NoJoin, ko_NoPaper_NoMore, ko_NoPaper_NoName, ko_NoPaper_NoOrder, ko_NoPaper_NoPaper, ko_NoPaper_NoPlace, ko_NoPaper_NoPlan, ko_NoPaper_NoSaying, ko_NoPaper_NoText, ko_NoPaper_TooMany, ko_NoPaper_ValueError, ko_NoPlace_Clash, ko_NoPlace_HalfError, ko_NoPlace_NoBound, ko_NoPlace_NoCover, ko_NoPlace_NoHalf, ko_NoPlace_NoJoin, ko_NoPlace_NoMore, ko_NoPlace_NoName, ko_NoPlace_NoOrder, ko_NoPlace_NoPaper, ko_NoPlace_NoPlace, ko_NoPlace_NoPlan, ko_NoPlace_NoSaying, ko_NoPlace_NoText, ko_NoPlace_TooMany, ko_NoPlace_ValueError, ko_NoPlan_Clash, ko_NoPlan_HalfError, ko_NoPlan_NoBound, ko_NoPlan_NoCover, ko_NoPlan_NoHalf, ko_NoPlan_NoJoin, ko_NoPlan_NoMore, ko_NoPlan_NoName, ko_NoPlan_NoOrder, ko_NoPlan_NoPaper, ko_NoPlan_NoPlace, ko_NoPlan_NoPlan, ko_NoPlan_NoSaying, ko_NoPlan_NoText, ko_NoPlan_TooMany, ko_NoPlan_ValueError, ko_NoSaying_Clash, ko_NoSaying_HalfError, ko_NoSaying_NoBound, ko_NoSaying_NoCover, ko_NoSaying_NoHalf, ko_NoSaying_NoJoin, ko_NoSaying_NoMore, ko_NoSaying_NoName, ko_NoSaying_NoOrder, ko_NoSaying_NoPaper, ko_NoSaying_NoPlace, ko_NoSaying_NoPlan, ko_NoSaying_NoSaying, ko_NoSaying_NoText, ko_NoSaying_TooMany, ko_NoSaying_ValueError, ko_NoText_Clash, ko_NoText_HalfError, ko_NoText_NoBound, ko_NoText_NoCover, ko_NoText_NoHalf, ko_NoText_NoJoin, ko_NoText_NoMore, ko_NoText_NoName, ko_NoText_NoOrder, ko_NoText_NoPaper, ko_NoText_NoPlace, ko_NoText_NoPlan, ko_NoText_NoSaying, ko_NoText_NoText, ko_NoText_TooMany, ko_NoText_ValueError, ko_TooMany_Clash, ko_TooMany_HalfError, ko_TooMany_NoBound, ko_TooMany_NoCover, ko_TooMany_NoHalf, ko_TooMany_NoJoin, ko_TooMany_NoMore, ko_TooMany_NoName, ko_TooMany_NoOrder, ko_TooMany_NoPaper, ko_TooMany_NoPlace, ko_TooMany_NoPlan, ko_TooMany_NoSaying, ko_TooMany_NoText, ko_TooMany_TooMany, ko_TooMany_ValueError⟩
  have C__law_feed := clp_of (fn__law_feed (w := w) (base := b) F0 gs  ) (PySem.W.mg_of X G a0) F0.kp (F0.binds (ps := ["_law_script"]) fun _ _ _ _ _ _ us hl => match us, hl with | [_], _ => rfl)
  have C__law_draw := clp_of (fn__law_draw (w := w) (base := b) F1 gs  ) (PySem.W.mg_of X G a1) F1.kp (F1.binds (ps := ["_law_feed_here", "_law_many"]) fun _ _ _ _ _ _ us hl => match us, hl with | [_, _], _ => rfl)
  have C__law_names := clp_of (fn__law_names (w := w) (base := b) F2 gs C__law_draw ) (PySem.W.mg_of X G a2) F2.kp (F2.binds (ps := ["_law_feed_here", "_law_many"]) fun _ _ _ _ _ _ us hl => match us, hl with | [_, _], _ => rfl)
  have C__law_kinds := clp_of (fn__law_kinds (w := w) (base := b) F3 gs zs  ) (PySem.W.mg_of X G a3) F3.kp (F3.binds (ps := ["_law_e"]) fun _ _ _ _ _ _ us hl => match us, hl with | [_], _ => rfl)
  have C__law_own := clp_of (fn__law_own (w := w) (base := b) F4 gs zs C__law_kinds ) (PySem.W.mg_of X G a4) F4.kp (F4.binds (ps := ["_law_e", "_law_at"]) fun _ _ _ _ _ _ us hl => match us, hl with | [_, _], _ => rfl)
  exact fn_law (w := w) (base := b) F5 gs zs C__law_draw C__law_feed C__law_names C__law_own 
end VL
open PySem PySem.W PyProof.Rows
set_option maxHeartbeats 0 in
theorem PySem.Challenge.cw_halforder_k21_refusals_by_hand_holds : PySem.Challenge.rw_halforder_k21_refusals_by_hand.Holds := by
  w_on; o_law; k_head; (case hw => w_witness2)
  k_fill
  refine VL.walk_V (l := PySem.Challenge.rw_halforder_k21_refusals_by_hand) (n := 63) (k := 3) (x := "_law_script") (CX := fun _ => L2.CX0) (g := fun _ _ => VL.g_law) rfl (by decide) rfl ⟨rfl, by decide, by decide⟩ (fun w h Y => PySem.W.kIn_of Y) ?F (fun _ _ ms hl => VL.law_true ms hl) (fun _ _ _ _ _ h => h)
  case F =>
    intro w mg fa h KX G hmg
    refine' VL.all_mk KX G hmg ?a0 ?l0 ?e0 ?k0 ?a1 ?l1 ?e1 ?k1 ?a2 ?l2 ?e2 ?k2 ?a3 ?l3 ?e3 ?k3 ?a4 ?l4 ?e4 ?k4 ?a5 ?l5 ?e5 ?k5 ?ac_Clash ?ac_HalfError ?ac_NoBound ?ac_NoCover ?ac_NoHalf ?ac_NoJoin ?ac_NoMore ?ac_NoName ?ac_NoOrder ?ac_NoPaper ?ac_NoPlace ?ac_NoPlan ?ac_NoSaying ?ac_NoText ?ac_TooMany ?xl_Clash ?sa_Clash ?i1_Clash ?t1_Clash ?l1_Clash ?c1_Clash ?kk_Clash ?nf_Clash_way ?ga_Clash ?gg_Clash ?cl_Clash ?kp_Clash ?eb_Clash ?ty_Clash ?hd_Clash ?mo_Clash ?xl_NoBound ?sa_NoBound ?i1_NoBound ?t1_NoBound ?l1_NoBound ?c1_NoBound ?kk_NoBound ?nf_NoBound_word ?nf_NoBound_row ?ga_NoBound ?gg_NoBound ?cl_NoBound ?kp_NoBound ?eb_NoBound ?ty_NoBound ?hd_NoBound ?mo_NoBound ?xq_NoCover ?ga_NoCover ?gg_NoCover ?cl_NoCover ?kp_NoCover ?eb_NoCover ?ty_NoCover ?hd_NoCover ?mo_NoCover ?xl_NoHalf ?sa_NoHalf ?i1_NoHalf ?t1_NoHalf ?l1_NoHalf ?c1_NoHalf ?kk_NoHalf ?nf_NoHalf_word ?nf_NoHalf_number ?ga_NoHalf ?gg_NoHalf ?cl_NoHalf ?kp_NoHalf ?eb_NoHalf ?ty_NoHalf ?hd_NoHalf ?mo_NoHalf ?xl_NoJoin ?sa_NoJoin ?i1_NoJoin ?t1_NoJoin ?l1_NoJoin ?c1_NoJoin ?kk_NoJoin ?nf_NoJoin_word ?ga_NoJoin ?gg_NoJoin ?cl_NoJoin ?kp_NoJoin ?eb_NoJoin ?ty_NoJoin ?hd_NoJoin ?mo_NoJoin ?xq_NoMore ?ga_NoMore ?gg_NoMore ?cl_NoMore ?kp_NoMore ?eb_NoMore ?ty_NoMore ?hd_NoMore ?mo_NoMore ?xl_NoName ?sa_NoName ?i1_NoName ?t1_NoName ?l1_NoName ?c1_NoName ?kk_NoName ?nf_NoName_name ?ga_NoName ?gg_NoName ?cl_NoName ?kp_NoName ?eb_NoName ?ty_NoName ?hd_NoName ?mo_NoName ?xq_NoOrder ?ga_NoOrder ?gg_NoOrder ?cl_NoOrder ?kp_NoOrder ?eb_NoOrder ?ty_NoOrder ?hd_NoOrder ?mo_NoOrder ?xl_NoPaper ?sa_NoPaper ?i1_NoPaper ?t1_NoPaper ?l1_NoPaper ?c1_NoPaper ?kk_NoPaper ?nf_NoPaper_word ?nf_NoPaper_row ?ga_NoPaper ?gg_NoPaper ?cl_NoPaper ?kp_NoPaper ?eb_NoPaper ?ty_NoPaper ?hd_NoPaper ?mo_NoPaper ?xl_NoPlace ?sa_NoPlace ?i1_NoPlace ?t1_NoPlace ?l1_NoPlace ?c1_NoPlace ?kk_NoPlace ?nf_NoPlace_number ?ga_NoPlace ?gg_NoPlace ?cl_NoPlace ?kp_NoPlace ?eb_NoPlace ?ty_NoPlace ?hd_NoPlace ?mo_NoPlace ?xl_NoPlan ?sa_NoPlan ?i1_NoPlan ?t1_NoPlan ?l1_NoPlan ?c1_NoPlan ?kk_NoPlan ?nf_NoPlan_word ?nf_NoPlan_path ?ga_NoPlan ?gg_NoPlan ?cl_NoPlan ?kp_NoPlan ?eb_NoPlan ?ty_NoPlan ?hd_NoPlan ?mo_NoPlan ?xl_NoSaying ?sa_NoSaying ?i1_NoSaying ?t1_NoSaying ?l1_NoSaying ?c1_NoSaying ?kk_NoSaying ?nf_NoSaying_number ?ga_NoSaying ?gg_NoSaying ?cl_NoSaying ?kp_NoSaying ?eb_NoSaying ?ty_NoSaying ?hd_NoSaying ?mo_NoSaying ?xl_NoText ?sa_NoText ?i1_NoText ?t1_NoText ?l1_NoText ?c1_NoText ?kk_NoText ?nf_NoText_row ?ga_NoText ?gg_NoText ?cl_NoText ?kp_NoText ?eb_NoText ?ty_NoText ?hd_NoText ?mo_NoText ?xl_TooMany ?sa_TooMany ?i1_TooMany ?t1_TooMany ?l1_TooMany ?c1_TooMany ?kk_TooMany ?nf_TooMany_word ?ga_TooMany ?gg_TooMany ?cl_TooMany ?kp_TooMany ?eb_TooMany ?ty_TooMany ?hd_TooMany ?mo_TooMany ?sg0 ?tk0 ?rd_HalfError ?sp_HalfError ?vv_HalfError ?ko_Clash_Clash ?ko_Clash_HalfError ?ko_Clash_NoBound ?ko_Clash_NoCover ?ko_Clash_NoHalf ?ko_Clash_NoJoin ?ko_Clash_NoMore ?ko_Clash_NoName ?ko_Clash_NoOrder ?ko_Clash_NoPaper ?ko_Clash_NoPlace ?ko_Clash_NoPlan ?ko_Clash_NoSaying ?ko_Clash_NoText ?ko_Clash_TooMany ?ko_Clash_ValueError ?ko_NoBound_Clash ?ko_NoBound_HalfError ?ko_NoBound_NoBound ?ko_NoBound_NoCover ?ko_NoBound_NoHalf ?ko_NoBound_NoJoin ?ko_NoBound_NoMore ?ko_NoBound_NoName ?ko_NoBound_NoOrder ?ko_NoBound_NoPaper ?ko_NoBound_NoPlace ?ko_NoBound_NoPlan ?ko_NoBound_NoSaying ?ko_NoBound_NoText ?ko_NoBound_TooMany ?ko_NoBound_ValueError ?ko_NoCover_Clash ?ko_NoCover_HalfError ?ko_NoCover_NoBound ?ko_NoCover_NoCover ?ko_NoCover_NoHalf ?ko_NoCover_NoJoin ?ko_NoCover_NoMore ?ko_NoCover_NoName ?ko_NoCover_NoOrder ?ko_NoCover_NoPaper ?ko_NoCover_NoPlace ?ko_NoCover_NoPlan ?ko_NoCover_NoSaying ?ko_NoCover_NoText ?ko_NoCover_TooMany ?ko_NoCover_ValueError ?ko_NoHalf_Clash ?ko_NoHalf_HalfError ?ko_NoHalf_NoBound ?ko_NoHalf_NoCover ?ko_NoHalf_NoHalf ?ko_NoHalf_NoJoin ?ko_NoHalf_NoMore ?ko_NoHalf_NoName ?ko_NoHalf_NoOrder ?ko_NoHalf_NoPaper ?ko_NoHalf_NoPlace ?ko_NoHalf_NoPlan ?ko_NoHalf_NoSaying ?ko_NoHalf_NoText ?ko_NoHalf_TooMany ?ko_NoHalf_ValueError ?ko_NoJoin_Clash ?ko_NoJoin_HalfError ?ko_NoJoin_NoBound ?ko_NoJoin_NoCover ?ko_NoJoin_NoHalf ?ko_NoJoin_NoJoin ?ko_NoJoin_NoMore ?ko_NoJoin_NoName ?ko_NoJoin_NoOrder ?ko_NoJoin_NoPaper ?ko_NoJoin_NoPlace ?ko_NoJoin_NoPlan ?ko_NoJoin_NoSaying ?ko_NoJoin_NoText ?ko_NoJoin_TooMany ?ko_NoJoin_ValueError ?ko_NoMore_Clash ?ko_NoMore_HalfError ?ko_NoMore_NoBound ?ko_NoMore_NoCover ?ko_NoMore_NoHalf ?ko_NoMore_NoJoin ?ko_NoMore_NoMore ?ko_NoMore_NoName ?ko_NoMore_NoOrder ?ko_NoMore_NoPaper ?ko_NoMore_NoPlace ?ko_NoMore_NoPlan ?ko_NoMore_NoSaying ?ko_NoMore_NoText ?ko_NoMore_TooMany ?ko_NoMore_ValueError ?ko_NoName_Clash ?ko_NoName_HalfError ?ko_NoName_NoBound ?ko_NoName_NoCover ?ko_NoName_NoHalf ?ko_NoName_NoJoin ?ko_NoName_NoMore ?ko_NoName_NoName ?ko_NoName_NoOrder ?ko_NoName_NoPaper ?ko_NoName_NoPlace ?ko_NoName_NoPlan ?ko_NoName_NoSaying ?ko_NoName_NoText ?ko_NoName_TooMany ?ko_NoName_ValueError ?ko_NoOrder_Clash ?ko_NoOrder_HalfError ?ko_NoOrder_NoBound ?ko_NoOrder_NoCover ?ko_NoOrder_NoHalf ?ko_NoOrder_NoJoin ?ko_NoOrder_NoMore ?ko_NoOrder_NoName ?ko_NoOrder_NoOrder ?ko_NoOrder_NoPaper ?ko_NoOrder_NoPlace ?ko_NoOrder_NoPlan ?ko_NoOrder_NoSaying ?ko_NoOrder_NoText ?ko_NoOrder_TooMany ?ko_NoOrder_ValueError ?ko_NoPaper_Clash ?ko_NoPaper_HalfError ?ko_NoPaper_NoBound ?ko_NoPaper_NoCover ?ko_NoPaper_NoHalf ?ko_NoPaper_NoJoin ?ko_NoPaper_NoMore ?ko_NoPaper_NoName ?ko_NoPaper_NoOrder ?ko_NoPaper_NoPaper ?ko_NoPaper_NoPlace ?ko_NoPaper_NoPlan ?ko_NoPaper_NoSaying ?ko_NoPaper_NoText ?ko_NoPaper_TooMany ?ko_NoPaper_ValueError ?ko_NoPlace_Clash ?ko_NoPlace_HalfError ?ko_NoPlace_NoBound ?ko_NoPlace_NoCover ?ko_NoPlace_NoHalf ?ko_NoPlace_NoJoin ?ko_NoPlace_NoMore ?ko_NoPlace_NoName ?ko_NoPlace_NoOrder ?ko_NoPlace_NoPaper ?ko_NoPlace_NoPlace ?ko_NoPlace_NoPlan ?ko_NoPlace_NoSaying ?ko_NoPlace_NoText ?ko_NoPlace_TooMany ?ko_NoPlace_ValueError ?ko_NoPlan_Clash ?ko_NoPlan_HalfError ?ko_NoPlan_NoBound ?ko_NoPlan_NoCover ?ko_NoPlan_NoHalf ?ko_NoPlan_NoJoin ?ko_NoPlan_NoMore ?ko_NoPlan_NoName ?ko_NoPlan_NoOrder ?ko_NoPlan_NoPaper ?ko_NoPlan_NoPlace ?ko_NoPlan_NoPlan ?ko_NoPlan_NoSaying ?ko_NoPlan_NoText ?ko_NoPlan_TooMany ?ko_NoPlan_ValueError ?ko_NoSaying_Clash ?ko_NoSaying_HalfError ?ko_NoSaying_NoBound ?ko_NoSaying_NoCover ?ko_NoSaying_NoHalf ?ko_NoSaying_NoJoin ?ko_NoSaying_NoMore ?ko_NoSaying_NoName ?ko_NoSaying_NoOrder ?ko_NoSaying_NoPaper ?ko_NoSaying_NoPlace ?ko_NoSaying_NoPlan ?ko_NoSaying_NoSaying ?ko_NoSaying_NoText ?ko_NoSaying_TooMany ?ko_NoSaying_ValueError ?ko_NoText_Clash ?ko_NoText_HalfError ?ko_NoText_NoBound ?ko_NoText_NoCover ?ko_NoText_NoHalf ?ko_NoText_NoJoin ?ko_NoText_NoMore ?ko_NoText_NoName ?ko_NoText_NoOrder ?ko_NoText_NoPaper ?ko_NoText_NoPlace ?ko_NoText_NoPlan ?ko_NoText_NoSaying ?ko_NoText_NoText ?ko_NoText_TooMany ?ko_NoText_ValueError ?ko_TooMany_Clash ?ko_TooMany_HalfError ?ko_TooMany_NoBound ?ko_TooMany_NoCover ?ko_TooMany_NoHalf ?ko_TooMany_NoJoin ?ko_TooMany_NoMore ?ko_TooMany_NoName ?ko_TooMany_NoOrder ?ko_TooMany_NoPaper ?ko_TooMany_NoPlace ?ko_TooMany_NoPlan ?ko_TooMany_NoSaying ?ko_TooMany_NoText ?ko_TooMany_TooMany ?ko_TooMany_ValueError ?z_ValueError ?z_int ?z_isinstance ?z_len ?z_list ?z_range ?z_repr ?z_tuple
    (case a0 => k_is); (case l0 => k_is); (case e0 => k_is); (case k0 => k_is); (case a1 => k_is); (case l1 => k_is); (case e1 => k_is); (case k1 => k_is); (case a2 => k_is); (case l2 => k_is); (case e2 => k_is); (case k2 => k_is); (case a3 => k_is); (case l3 => k_is); (case e3 => k_is); (case k3 => k_is); (case a4 => k_is); (case l4 => k_is); (case e4 => k_is); (case k4 => k_is); (case a5 => k_is); (case l5 => k_is); (case e5 => k_is); (case k5 => k_is); (case ac_Clash => k_is); (case ac_HalfError => k_is); (case ac_NoBound => k_is); (case ac_NoCover => k_is); (case ac_NoHalf => k_is); (case ac_NoJoin => k_is); (case ac_NoMore => k_is); (case ac_NoName => k_is); (case ac_NoOrder => k_is); (case ac_NoPaper => k_is); (case ac_NoPlace => k_is); (case ac_NoPlan => k_is); (case ac_NoSaying => k_is); (case ac_NoText => k_is); (case ac_TooMany => k_is); (case xl_Clash => k_is); (case sa_Clash => k_is); (case i1_Clash => k_is); (case t1_Clash => k_is); (case l1_Clash => k_is); (case c1_Clash => k_is); (case kk_Clash => k_is); (case nf_Clash_way => k_is); (case ga_Clash => k_is); (case gg_Clash => k_is); (case cl_Clash => k_is); (case kp_Clash => k_is); (case eb_Clash => k_is); (case ty_Clash => k_is); (case hd_Clash => k_is); (case mo_Clash => k_is); (case xl_NoBound => k_is); (case sa_NoBound => k_is); (case i1_NoBound => k_is); (case t1_NoBound => k_is); (case l1_NoBound => k_is); (case c1_NoBound => k_is); (case kk_NoBound => k_is); (case nf_NoBound_word => k_is); (case nf_NoBound_row => k_is); (case ga_NoBound => k_is); (case gg_NoBound => k_is); (case cl_NoBound => k_is); (case kp_NoBound => k_is); (case eb_NoBound => k_is); (case ty_NoBound => k_is); (case hd_NoBound => k_is); (case mo_NoBound => k_is); (case xq_NoCover => k_exc); (case ga_NoCover => k_is); (case gg_NoCover => k_is); (case cl_NoCover => k_is); (case kp_NoCover => k_is); (case eb_NoCover => k_is); (case ty_NoCover => k_is); (case hd_NoCover => k_is); (case mo_NoCover => k_is); (case xl_NoHalf => k_is); (case sa_NoHalf => k_is); (case i1_NoHalf => k_is); (case t1_NoHalf => k_is); (case l1_NoHalf => k_is); (case c1_NoHalf => k_is); (case kk_NoHalf => k_is); (case nf_NoHalf_word => k_is); (case nf_NoHalf_number => k_is); (case ga_NoHalf => k_is); (case gg_NoHalf => k_is); (case cl_NoHalf => k_is); (case kp_NoHalf => k_is); (case eb_NoHalf => k_is); (case ty_NoHalf => k_is); (case hd_NoHalf => k_is); (case mo_NoHalf => k_is); (case xl_NoJoin => k_is); (case sa_NoJoin => k_is); (case i1_NoJoin => k_is); (case t1_NoJoin => k_is); (case l1_NoJoin => k_is); (case c1_NoJoin => k_is); (case kk_NoJoin => k_is); (case nf_NoJoin_word => k_is); (case ga_NoJoin => k_is); (case gg_NoJoin => k_is); (case cl_NoJoin => k_is); (case kp_NoJoin => k_is); (case eb_NoJoin => k_is); (case ty_NoJoin => k_is); (case hd_NoJoin => k_is); (case mo_NoJoin => k_is); (case xq_NoMore => k_exc); (case ga_NoMore => k_is); (case gg_NoMore => k_is); (case cl_NoMore => k_is); (case kp_NoMore => k_is); (case eb_NoMore => k_is); (case ty_NoMore => k_is); (case hd_NoMore => k_is); (case mo_NoMore => k_is); (case xl_NoName => k_is); (case sa_NoName => k_is); (case i1_NoName => k_is); (case t1_NoName => k_is); (case l1_NoName => k_is); (case c1_NoName => k_is); (case kk_NoName => k_is); (case nf_NoName_name => k_is); (case ga_NoName => k_is); (case gg_NoName => k_is); (case cl_NoName => k_is); (case kp_NoName => k_is); (case eb_NoName => k_is); (case ty_NoName => k_is); (case hd_NoName => k_is); (case mo_NoName => k_is); (case xq_NoOrder => k_exc); (case ga_NoOrder => k_is); (case gg_NoOrder => k_is); (case cl_NoOrder => k_is); (case kp_NoOrder => k_is); (case eb_NoOrder => k_is); (case ty_NoOrder => k_is); (case hd_NoOrder => k_is); (case mo_NoOrder => k_is); (case xl_NoPaper => k_is); (case sa_NoPaper => k_is); (case i1_NoPaper => k_is); (case t1_NoPaper => k_is); (case l1_NoPaper => k_is); (case c1_NoPaper => k_is); (case kk_NoPaper => k_is); (case nf_NoPaper_word => k_is); (case nf_NoPaper_row => k_is); (case ga_NoPaper => k_is); (case gg_NoPaper => k_is); (case cl_NoPaper => k_is); (case kp_NoPaper => k_is); (case eb_NoPaper => k_is); (case ty_NoPaper => k_is); (case hd_NoPaper => k_is); (case mo_NoPaper => k_is); (case xl_NoPlace => k_is); (case sa_NoPlace => k_is); (case i1_NoPlace => k_is); (case t1_NoPlace => k_is); (case l1_NoPlace => k_is); (case c1_NoPlace => k_is); (case kk_NoPlace => k_is); (case nf_NoPlace_number => k_is); (case ga_NoPlace => k_is); (case gg_NoPlace => k_is); (case cl_NoPlace => k_is); (case kp_NoPlace => k_is); (case eb_NoPlace => k_is); (case ty_NoPlace => k_is); (case hd_NoPlace => k_is); (case mo_NoPlace => k_is); (case xl_NoPlan => k_is); (case sa_NoPlan => k_is); (case i1_NoPlan => k_is); (case t1_NoPlan => k_is); (case l1_NoPlan => k_is); (case c1_NoPlan => k_is); (case kk_NoPlan => k_is); (case nf_NoPlan_word => k_is); (case nf_NoPlan_path => k_is); (case ga_NoPlan => k_is); (case gg_NoPlan => k_is); (case cl_NoPlan => k_is); (case kp_NoPlan => k_is); (case eb_NoPlan => k_is); (case ty_NoPlan => k_is); (case hd_NoPlan => k_is); (case mo_NoPlan => k_is); (case xl_NoSaying => k_is); (case sa_NoSaying => k_is); (case i1_NoSaying => k_is); (case t1_NoSaying => k_is); (case l1_NoSaying => k_is); (case c1_NoSaying => k_is); (case kk_NoSaying => k_is); (case nf_NoSaying_number => k_is); (case ga_NoSaying => k_is); (case gg_NoSaying => k_is); (case cl_NoSaying => k_is); (case kp_NoSaying => k_is); (case eb_NoSaying => k_is); (case ty_NoSaying => k_is); (case hd_NoSaying => k_is); (case mo_NoSaying => k_is); (case xl_NoText => k_is); (case sa_NoText => k_is); (case i1_NoText => k_is); (case t1_NoText => k_is); (case l1_NoText => k_is); (case c1_NoText => k_is); (case kk_NoText => k_is); (case nf_NoText_row => k_is); (case ga_NoText => k_is); (case gg_NoText => k_is); (case cl_NoText => k_is); (case kp_NoText => k_is); (case eb_NoText => k_is); (case ty_NoText => k_is); (case hd_NoText => k_is); (case mo_NoText => k_is); (case xl_TooMany => k_is); (case sa_TooMany => k_is); (case i1_TooMany => k_is); (case t1_TooMany => k_is); (case l1_TooMany => k_is); (case c1_TooMany => k_is); (case kk_TooMany => k_is); (case nf_TooMany_word => k_is); (case ga_TooMany => k_is); (case gg_TooMany => k_is); (case cl_TooMany => k_is); (case kp_TooMany => k_is); (case eb_TooMany => k_is); (case ty_TooMany => k_is); (case hd_TooMany => k_is); (case mo_TooMany => k_is); (case sg0 => k_is); (case tk0 => k_is); (case rd_HalfError => k_is); (case sp_HalfError => k_is); (case vv_HalfError => k_is); (case ko_Clash_Clash => kit_is); (case ko_Clash_HalfError => kit_is); (case ko_Clash_NoBound => kit_is); (case ko_Clash_NoCover => kit_is); (case ko_Clash_NoHalf => kit_is); (case ko_Clash_NoJoin => kit_is); (case ko_Clash_NoMore => kit_is); (case ko_Clash_NoName => kit_is); (case ko_Clash_NoOrder => kit_is); (case ko_Clash_NoPaper => kit_is); (case ko_Clash_NoPlace => kit_is); (case ko_Clash_NoPlan => kit_is); (case ko_Clash_NoSaying => kit_is); (case ko_Clash_NoText => kit_is); (case ko_Clash_TooMany => kit_is); (case ko_Clash_ValueError => kit_is); (case ko_NoBound_Clash => kit_is); (case ko_NoBound_HalfError => kit_is); (case ko_NoBound_NoBound => kit_is); (case ko_NoBound_NoCover => kit_is); (case ko_NoBound_NoHalf => kit_is); (case ko_NoBound_NoJoin => kit_is); (case ko_NoBound_NoMore => kit_is); (case ko_NoBound_NoName => kit_is); (case ko_NoBound_NoOrder => kit_is); (case ko_NoBound_NoPaper => kit_is); (case ko_NoBound_NoPlace => kit_is); (case ko_NoBound_NoPlan => kit_is); (case ko_NoBound_NoSaying => kit_is); (case ko_NoBound_NoText => kit_is); (case ko_NoBound_TooMany => kit_is); (case ko_NoBound_ValueError => kit_is); (case ko_NoCover_Clash => kit_is); (case ko_NoCover_HalfError => kit_is); (case ko_NoCover_NoBound => kit_is); (case ko_NoCover_NoCover => kit_is); (case ko_NoCover_NoHalf => kit_is); (case ko_NoCover_NoJoin => kit_is); (case ko_NoCover_NoMore => kit_is); (case ko_NoCover_NoName => kit_is); (case ko_NoCover_NoOrder => kit_is); (case ko_NoCover_NoPaper => kit_is); (case ko_NoCover_NoPlace => kit_is); (case ko_NoCover_NoPlan => kit_is); (case ko_NoCover_NoSaying => kit_is); (case ko_NoCover_NoText => kit_is); (case ko_NoCover_TooMany => kit_is); (case ko_NoCover_ValueError => kit_is); (case ko_NoHalf_Clash => kit_is); (case ko_NoHalf_HalfError => kit_is); (case ko_NoHalf_NoBound => kit_is); (case ko_NoHalf_NoCover => kit_is); (case ko_NoHalf_NoHalf => kit_is); (case ko_NoHalf_NoJoin => kit_is); (case ko_NoHalf_NoMore => kit_is); (case ko_NoHalf_NoName => kit_is); (case ko_NoHalf_NoOrder => kit_is); (case ko_NoHalf_NoPaper => kit_is); (case ko_NoHalf_NoPlace => kit_is); (case ko_NoHalf_NoPlan => kit_is); (case ko_NoHalf_NoSaying => kit_is); (case ko_NoHalf_NoText => kit_is); (case ko_NoHalf_TooMany => kit_is); (case ko_NoHalf_ValueError => kit_is); (case ko_NoJoin_Clash => kit_is); (case ko_NoJoin_HalfError => kit_is); (case ko_NoJoin_NoBound => kit_is); (case ko_NoJoin_NoCover => kit_is); (case ko_NoJoin_NoHalf => kit_is); (case ko_NoJoin_NoJoin => kit_is); (case ko_NoJoin_NoMore => kit_is); (case ko_NoJoin_NoName => kit_is); (case ko_NoJoin_NoOrder => kit_is); (case ko_NoJoin_NoPaper => kit_is); (case ko_NoJoin_NoPlace => kit_is); (case ko_NoJoin_NoPlan => kit_is); (case ko_NoJoin_NoSaying => kit_is); (case ko_NoJoin_NoText => kit_is); (case ko_NoJoin_TooMany => kit_is); (case ko_NoJoin_ValueError => kit_is); (case ko_NoMore_Clash => kit_is); (case ko_NoMore_HalfError => kit_is); (case ko_NoMore_NoBound => kit_is); (case ko_NoMore_NoCover => kit_is); (case ko_NoMore_NoHalf => kit_is); (case ko_NoMore_NoJoin => kit_is); (case ko_NoMore_NoMore => kit_is); (case ko_NoMore_NoName => kit_is); (case ko_NoMore_NoOrder => kit_is); (case ko_NoMore_NoPaper => kit_is); (case ko_NoMore_NoPlace => kit_is); (case ko_NoMore_NoPlan => kit_is); (case ko_NoMore_NoSaying => kit_is); (case ko_NoMore_NoText => kit_is); (case ko_NoMore_TooMany => kit_is); (case ko_NoMore_ValueError => kit_is); (case ko_NoName_Clash => kit_is); (case ko_NoName_HalfError => kit_is); (case ko_NoName_NoBound => kit_is); (case ko_NoName_NoCover => kit_is); (case ko_NoName_NoHalf => kit_is); (case ko_NoName_NoJoin => kit_is); (case ko_NoName_NoMore => kit_is); (case ko_NoName_NoName => kit_is); (case ko_NoName_NoOrder => kit_is); (case ko_NoName_NoPaper => kit_is); (case ko_NoName_NoPlace => kit_is); (case ko_NoName_NoPlan => kit_is); (case ko_NoName_NoSaying => kit_is); (case ko_NoName_NoText => kit_is); (case ko_NoName_TooMany => kit_is); (case ko_NoName_ValueError => kit_is); (case ko_NoOrder_Clash => kit_is); (case ko_NoOrder_HalfError => kit_is); (case ko_NoOrder_NoBound => kit_is); (case ko_NoOrder_NoCover => kit_is); (case ko_NoOrder_NoHalf => kit_is); (case ko_NoOrder_NoJoin => kit_is); (case ko_NoOrder_NoMore => kit_is); (case ko_NoOrder_NoName => kit_is); (case ko_NoOrder_NoOrder => kit_is); (case ko_NoOrder_NoPaper => kit_is); (case ko_NoOrder_NoPlace => kit_is); (case ko_NoOrder_NoPlan => kit_is); (case ko_NoOrder_NoSaying => kit_is); (case ko_NoOrder_NoText => kit_is); (case ko_NoOrder_TooMany => kit_is); (case ko_NoOrder_ValueError => kit_is); (case ko_NoPaper_Clash => kit_is); (case ko_NoPaper_HalfError => kit_is); (case ko_NoPaper_NoBound => kit_is); (case ko_NoPaper_NoCover => kit_is); (case ko_NoPaper_NoHalf => kit_is); (case ko_NoPaper_NoJoin => kit_is); (case ko_NoPaper_NoMore => kit_is); (case ko_NoPaper_NoName => kit_is); (case ko_NoPaper_NoOrder => kit_is); (case ko_NoPaper_NoPaper => kit_is); (case ko_NoPaper_NoPlace => kit_is); (case ko_NoPaper_NoPlan => kit_is); (case ko_NoPaper_NoSaying => kit_is); (case ko_NoPaper_NoText => kit_is); (case ko_NoPaper_TooMany => kit_is); (case ko_NoPaper_ValueError => kit_is); (case ko_NoPlace_Clash => kit_is); (case ko_NoPlace_HalfError => kit_is); (case ko_NoPlace_NoBound => kit_is); (case ko_NoPlace_NoCover => kit_is); (case ko_NoPlace_NoHalf => kit_is); (case ko_NoPlace_NoJoin => kit_is); (case ko_NoPlace_NoMore => kit_is); (case ko_NoPlace_NoName => kit_is); (case ko_NoPlace_NoOrder => kit_is); (case ko_NoPlace_NoPaper => kit_is); (case ko_NoPlace_NoPlace => kit_is); (case ko_NoPlace_NoPlan => kit_is); (case ko_NoPlace_NoSaying => kit_is); (case ko_NoPlace_NoText => kit_is); (case ko_NoPlace_TooMany => kit_is); (case ko_NoPlace_ValueError => kit_is); (case ko_NoPlan_Clash => kit_is); (case ko_NoPlan_HalfError => kit_is); (case ko_NoPlan_NoBound => kit_is); (case ko_NoPlan_NoCover => kit_is); (case ko_NoPlan_NoHalf => kit_is); (case ko_NoPlan_NoJoin => kit_is); (case ko_NoPlan_NoMore => kit_is); (case ko_NoPlan_NoName => kit_is); (case ko_NoPlan_NoOrder => kit_is); (case ko_NoPlan_NoPaper => kit_is); (case ko_NoPlan_NoPlace => kit_is); (case ko_NoPlan_NoPlan => kit_is); (case ko_NoPlan_NoSaying => kit_is); (case ko_NoPlan_NoText => kit_is); (case ko_NoPlan_TooMany => kit_is); (case ko_NoPlan_ValueError => kit_is); (case ko_NoSaying_Clash => kit_is); (case ko_NoSaying_HalfError => kit_is); (case ko_NoSaying_NoBound => kit_is); (case ko_NoSaying_NoCover => kit_is); (case ko_NoSaying_NoHalf => kit_is); (case ko_NoSaying_NoJoin => kit_is); (case ko_NoSaying_NoMore => kit_is); (case ko_NoSaying_NoName => kit_is); (case ko_NoSaying_NoOrder => kit_is); (case ko_NoSaying_NoPaper => kit_is); (case ko_NoSaying_NoPlace => kit_is); (case ko_NoSaying_NoPlan => kit_is); (case ko_NoSaying_NoSaying => kit_is); (case ko_NoSaying_NoText => kit_is); (case ko_NoSaying_TooMany => kit_is); (case ko_NoSaying_ValueError => kit_is); (case ko_NoText_Clash => kit_is); (case ko_NoText_HalfError => kit_is); (case ko_NoText_NoBound => kit_is); (case ko_NoText_NoCover => kit_is); (case ko_NoText_NoHalf => kit_is); (case ko_NoText_NoJoin => kit_is); (case ko_NoText_NoMore => kit_is); (case ko_NoText_NoName => kit_is); (case ko_NoText_NoOrder => kit_is); (case ko_NoText_NoPaper => kit_is); (case ko_NoText_NoPlace => kit_is); (case ko_NoText_NoPlan => kit_is); (case ko_NoText_NoSaying => kit_is); (case ko_NoText_NoText => kit_is); (case ko_NoText_TooMany => kit_is); (case ko_NoText_ValueError => kit_is); (case ko_TooMany_Clash => kit_is); (case ko_TooMany_HalfError => kit_is); (case ko_TooMany_NoBound => kit_is); (case ko_TooMany_NoCover => kit_is); (case ko_TooMany_NoHalf => kit_is); (case ko_TooMany_NoJoin => kit_is); (case ko_TooMany_NoMore => kit_is); (case ko_TooMany_NoName => kit_is); (case ko_TooMany_NoOrder => kit_is); (case ko_TooMany_NoPaper => kit_is); (case ko_TooMany_NoPlace => kit_is); (case ko_TooMany_NoPlan => kit_is); (case ko_TooMany_NoSaying => kit_is); (case ko_TooMany_NoText => kit_is); (case ko_TooMany_TooMany => kit_is); (case ko_TooMany_ValueError => kit_is); (case z_ValueError => k_is); (case z_int => k_is); (case z_isinstance => k_is); (case z_len => k_is); (case z_list => k_is); (case z_range => k_is); (case z_repr => k_is); (case z_tuple => k_is)
