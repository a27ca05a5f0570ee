import PyProof.Rows.All
import Wide.All
import OpenK.AllK
import Wide.FinOn
import HandS.ForExc
import HandS.ForMost
import HandS.IsInst
import HandS.TupAny
import HandS.TupMul
import HandS.Strs
import HandS.Conv
import HandS.ExcInit
import HandS.Wide
import HandS.WideBits
import HandS.Text
import HandS.Dict
import HandS.WordsDict
import HandS.TupLen
import HandS.More
import HandS.Iter
import HandS.Zip
import HandS.Comp
import HandS.ExcOwn
import HandS.WordsExc
import HandS.RaiseMore
import KE.KRevSl
import KE.GoesMore
import HandS.TupLe
import HandS.Rev
import HandS.SetFor
import HandS.MapSum
import KE.KDictDisplayH
import PyProof.SumAny
import HandS.Sort
import HandS.TryOnly
import HandS.ExcField
import HandS.ExcIs
import HandS.ClsMeth
import KE.KExcIs
import HandS.TupSets
import KE.KSortTup
import HandS.DeepEq
import KE.KDictZip
import HandS.SetKeys
import HandS.RevRange
import HandS.List
import PyProof.RowDictHeap
import PyProof.AutoSeq1
import HandS.Set
import HandS.SetTxt0
import PyProof.MaxThree
import KE.KDictPairs
import HandS.SortInts
import HandS.HotCalls
import PySem.Challenge.RW_halforder_k75_sayings_clash_and_lead
set_option Elab.async false
set_option linter.all false
set_option maxRecDepth 100000
/-! V0: tuples that are made are known as objects (so that they have no dict of their own, and their methods can be called). -/
namespace VL
open PySem PySem.Spec L2
open PyProof.Rows (IsTup)

def tupO (us : List Value) : Obj := { cls := .type "tuple", data := .seq us.toArray }
abbrev tupC (us : List Value) (xs : List V) : HO := .frz (tupO us) (.tup xs)
def TupF (F : Hp) (p : Addr) (xs : List V) : Prop := ∃ us, F p = some (tupC us xs)
theorem TupF.sq {F : Hp} {p : Addr} {xs : List V} (K : PySem.W.Frag) (h : TupF F p xs) : SqT K F p xs := let ⟨_, e⟩ := h; .inl (.inr ⟨_, e⟩)
theorem TupF.mono {F F' : Hp} {p : Addr} {xs : List V} (s : Same F F') (h : TupF F p xs) : TupF F' p xs := let ⟨us, e⟩ := h; ⟨us, s _ _ e⟩
theorem tupC_ok {P : Program} {w : World} {H : Hp} {h : Heap} {a : Addr} {us : List Value} {xs : List V} (hz : xs.length ≤ sizeLine) (r : Vals xs us) (e : h.get? a = some (tupO us)) : ObjOk P w H h a (tupC us xs) :=
  ⟨e, hz, us, r, ⟨_, e, rfl, _, rfl⟩⟩
section
variable {X : Cx} {pos : Pos} {es : List Expr} {t : TA}
def tTupF (t : TA) : TE := fun σ H Q => t σ H fun xs H1 => xs.length ≤ sizeLine ∧ ∀ p us, H1 p = none → Q (.ref p) (upd H1 p (tupC us xs))
theorem pe_tupF {x1} (h : PA X es t) : PE X (.Tuple es x1 pos) (tTupF t) := by
  refine ⟨fun pins s σ H Q I hq => ?_⟩
  refine wpAny_Tuple_spliced (thn (h.run pos pins s σ H _ I hq) fun us s1 ⟨xs, H1, I1, r, z, q⟩ => ⟨by rw [← r.length]; exact z, ?_⟩)
  have hf : H1 s1.heap.objs.size = none := I1.hok.fresh (Nat.le_refl _)
  exact ⟨.ref s1.heap.objs.size, upd H1 s1.heap.objs.size (tupC us xs), I1.laid (t' := s1.toks) (fun b u e => Heap.get?_push_of_some _ e) (Nat.le_refl _) (tupC_ok z r (Heap.get?_push_size _ rfl)), rfl, q _ us hf⟩
def rCatF (K : PySem.W.Frag) : R2 := fun x y H Q => ∃ a b xs ys, x = .ref a ∧ y = .ref b ∧ SqT K H a xs ∧ SqT K H b ys ∧ xs.length + ys.length ≤ sizeLine ∧
  (xs = [] → Q (.ref b) H) ∧ (xs ≠ [] → ys = [] → Q (.ref a) H) ∧ (xs ≠ [] → ys ≠ [] → ∀ p us, H p = none → Q (.ref p) (upd H p (tupC us (xs ++ ys))))
theorem op_catF : OpR X (binaryOp .Add) (rCatF X.K) := by
  intro pins s σ H x y v u Q I rx ry h
  obtain ⟨a, b, xs, ys, rfl, rfl, ha, hb, hz, q0, q1, q2⟩ := h
  cases rx
  cases ry
  obtain ⟨its, r1, p1, _⟩ := I.tuple ha
  obtain ⟨its2, r2, p2, _⟩ := I.tuple hb
  by_cases hx : xs = []
  · subst hx
    cases r1
    exact cat_tup0 p1 p2 ⟨.ref b, H, I, rfl, q0 rfl⟩
  · refine HT.cat_tup p1 p2 (fun z => hx (r1.nil_iff.mp z)) (fun z => ⟨.ref a, H, I, rfl, q1 hx (r2.nil_iff.mp z)⟩) (fun z => ?_) (by rw [← r1.length, ← r2.length]; exact hz)
    refine ⟨.ref s.heap.objs.size, _, I.laid (t' := s.toks) (o := tupC (its ++ its2) (xs ++ ys)) (fun b ob q => Heap.get?_push_of_some _ q) (Nat.le_refl _) ?_, rfl, q2 hx (fun w => z (r2.nil_iff.mpr w)) _ _ (I.hok.fresh (Nat.le_refl _))⟩
    exact tupC_ok (by rw [List.length_append]; exact hz) (r1.append r2) (Heap.get?_push_size _ rfl)
def rSlF (K : PySem.W.Frag) : V → Option Int → Option Int → Hp → VK → Prop := fun x lo hi H Q => ∃ a xs, x = .ref a ∧ SqT K H a xs ∧
  (HT.sIx xs.length 0 lo = 0 ∧ HT.sIx xs.length xs.length hi = xs.length → Q (.ref a) H) ∧ (¬ (HT.sIx xs.length 0 lo = 0 ∧ HT.sIx xs.length xs.length hi = xs.length) → ∀ p us, H p = none → Q (.ref p) (upd H p (tupC us (cutV xs lo hi))))
theorem sl_tupF : SlR X (rSlF X.K) := by
  intro pins s σ H x v vl vu lo hi sl Q I rx hs pl pu h
  obtain ⟨a, xs, rfl, hx, q1, q2⟩ := h
  cases rx
  obtain ⟨its, r, ht, hz⟩ := I.tuple hx
  have hlen : its.toArray.size = xs.length := by rw [List.size_toArray]; exact r.length.symm
  refine ⟨"tuple", _, PyProof.Rows.slot_tuple_getitem.lookup, ht.typeIs, ?_⟩
  by_cases hw : HT.sIx xs.length 0 lo = 0 ∧ HT.sIx xs.length xs.length hi = xs.length
  · exact getItem_tuple_whole ht hs pl pu (by rw [hlen]; exact hw) ⟨.ref a, H, I, rfl, q1 hw⟩
  · refine HT.getItem_tuple_cut ht hs pl pu (by rw [hlen]; exact hw) ?_ (by rw [hlen]; exact hz)
    rw [hlen]
    refine ⟨.ref s.heap.objs.size, _, I.laid (t' := s.toks) (o := tupC ((its.drop (HT.sIx xs.length 0 lo)).take (HT.sIx xs.length xs.length hi - HT.sIx xs.length 0 lo)) (cutV xs lo hi)) (fun b ob q => Heap.get?_push_of_some _ q) (Nat.le_refl _) ?_, rfl, q2 hw _ _ (I.hok.fresh (Nat.le_refl _))⟩
    exact tupC_ok (Nat.le_trans (cutV_length xs lo hi) hz) ((r.drop (HT.sIx xs.length 0 lo)).take (HT.sIx xs.length xs.length hi - HT.sIx xs.length 0 lo)) (Heap.get?_push_size _ rfl)
def rRepF (K : PySem.W.Frag) : R2 := fun x y H Q => ∃ l k xs, x = .ref l ∧ y = .int k ∧ SqT K H l xs ∧ xs ≠ [] ∧ 2 ≤ k ∧ k ≤ 1000 ∧ xs.length ≤ 1000 ∧ ∀ p us, H p = none → Q (.ref p) (upd H p (tupC us (List.replicate k.toNat xs).flatten))
theorem op_repF : OpR X (binaryOp .Mult) (rRepF X.K) := by
  intro pins s σ H x y v u Q I rx ry h
  obtain ⟨l, k, xs, rfl, rfl, hT, hne, h1, h2, hz, q⟩ := h
  cases rx
  obtain ⟨t, rfl⟩ := ry
  obtain ⟨its, r, ⟨⟨cls, dd, data, sl⟩, ho, hc, n, hd⟩, hs⟩ := I.tuple hT
  simp only at hc hd
  subst hc hd
  have hle : its.length = xs.length := r.length.symm
  have hn : its ≠ [] := fun e => hne (by
    rw [e] at hle
    exact List.eq_nil_of_length_eq_zero hle.symm)
  have hi : its.toArray.isEmpty = false := by
    cases its with
    | nil => exact absurd rfl hn
    | cons a b => rfl
  have hsz0 : its.toArray.size = xs.length := by rw [List.size_toArray, hle]
  have hm : ((its.toArray.size : Nat) : Int) * k ≤ 1000000 := by
    rw [hsz0]
    have a1 : ((xs.length : Nat) : Int) * k ≤ 1000 * k := Int.mul_le_mul_of_nonneg_right (by omega) (by omega)
    omega
  have flen : (List.replicate k.toNat its).flatten.length ≤ sizeLine := by
    rw [PyProof.Rows.lm_len_rep_flat, hle, sizeLine_eq]
    have a1 : k.toNat * xs.length ≤ 1000 * 1000 := Nat.mul_le_mul (by omega) hz
    omega
  have c0 : (decide (k < -(2 ^ 63)) || decide (k ≥ 2 ^ 63)) = false := by
    rw [decide_eq_false (by omega), decide_eq_false (by omega)] <;> rfl
  have c1 : (its.toArray.isEmpty || k == 1) = false := by
    rw [hi, Bool.false_or]
    exact beq_eq_false_iff_ne.mpr (by omega)
  have c2 : (decide (k ≤ 0) || its.toArray.isEmpty) = false := by
    rw [hi, Bool.or_false]
    exact decide_eq_false (by omega)
  have c4 : Builtin.Tuple.tupleTooMany (((its.toArray.size : Nat) : Int) * k) = false := by
    unfold Builtin.Tuple.tupleTooMany
    rw [sizeLine_eq]
    exact decide_eq_false (by omega)
  refine wpAny_binaryOp_repeat_ref (T := "tuple") (U := "int") (by decide) ⟨_, ho, rfl⟩ (fun s' => typeIs_int s' k t) noFill_tuple_mul F.fills_int_mul F.slot_int_rmul repeat_tuple F.slot_int_index.lookup
    (call_meets F.slot_int_rmul (typeIs_int s k t) F.entry_int_rmul (F.args_int_rmul_2 _ _) (int_rmul_tuple k t l its.toArray n dd sl)
      ⟨ho, rfl, ⟨_, ho, rfl⟩, call_meets F.slot_tuple_mul ⟨_, ho, rfl⟩ F.entry_tuple_mul (F.args_tuple_mul_2 _ _) (tuple_mulW l its.toArray n dd sl k t c0 c1 c2 (by omega) c4 (by rw [size_rep, List.size_toArray]; exact flen)) ⟨ho, ?_⟩⟩)
  rw [size_rep]
  refine ⟨.ref s.heap.objs.size, _, I.laid (t' := s.toks) (o := tupC (List.replicate k.toNat its).flatten (List.replicate k.toNat xs).flatten) (fun b ob q => Heap.get?_push_of_some _ q) (Nat.le_refl _) ?_, rfl, q _ _ (I.hok.fresh (Nat.le_refl _))⟩
  exact tupC_ok (by rw [PyProof.Rows.lm_len_rep_flat, sizeLine_eq]; have a1 : k.toNat * xs.length ≤ 1000 * 1000 := Nat.mul_le_mul (by omega) hz; omega) (r.rep k.toNat) (Heap.get?_push_size _ rfl)
/-- tuple(x) -/
def kTupF (K : PySem.W.Frag) (x : V) (H : Hp) (Q : VK) : Prop :=
  (∃ p xs, x = .ref p ∧ SqL K H p xs ∧ ∀ q us, H q = none → Q (.ref q) (upd H q (tupC us xs))) ∨ (∃ p xs, x = .ref p ∧ SqT K H p xs ∧ Q (.ref p) H)
theorem rl_tupleF (pins : List (Addr × Obj)) (s : Shared) (σ : St) (H : Hp) (x : V) (v : Value) (Q : VK) (I : Inv X pins σ H s) (r : RelV x v) (h : kTupF X.K x H Q) :
    wpAny (model X.prog X.w) X.A (call (.type "tuple") [v]) (EP X pins σ Q) X.xe s := by
  rcases h with ⟨p, xs, rfl, hs, q⟩ | ⟨p, xs, rfl, hs, q⟩
  · obtain rfl : v = .ref p := r
    obtain ⟨its, rv, pl, hz⟩ := I.list hs
    refine call_tuple_list pl.isList (fun h' hk => ?_) (by rw [List.size_toArray, ← rv.length]; exact hz)
    have I1 : Inv X pins σ H { s with heap := h' } := I.kept (t' := s.toks) hk
    have I2 : Inv X pins σ (upd H h'.objs.size (tupC its xs)) { s with heap := h'.push { cls := .type "tuple", data := .seq its.toArray } } :=
      I1.laid (t' := s.toks) (fun b o e => Heap.get?_push_of_some _ e) (Nat.le_refl _) (tupC_ok hz rv (Heap.get?_push_size _ rfl))
    exact ⟨.ref h'.objs.size, upd H h'.objs.size (tupC its xs), I2, rfl, q _ _ (I1.hok.fresh (Nat.le_refl _))⟩
  · obtain rfl : v = .ref p := r
    obtain ⟨its, rv, pl, hz⟩ := I.tuple hs
    exact call_tuple_same pl ⟨.ref p, H, I, rfl, q⟩
theorem pe_tupleOfF {a : Expr} {ta : TE} {p pos : Pos} (hg : Gl X "tuple") (hm : X.mg "tuple" = none) (ha : PE X a ta) (na : starEach [a] X.env = (false, eval a X.env) :: starEach [] X.env := by rfl) :
    PE X (.Call (.Name "tuple" p) [a] [] pos) (tThen ta (kTupF X.K)) := by
  refine ⟨fun pins s σ H Q I h => ?_⟩
  exact PyProof.Rows.Call_ (ld_blt I hg hm PyProof.Rows.boot_tuple (PyProof.Rows.callWith_type1 (one_arg ha I h (fun v s2 x H2 I2 r q => rl_tupleF pins s2 σ H2 x v Q I2 r q) na) na))
end
end VL
/-! V1: data D, how a value bears it in the frozen heap F (Rep), owned cells (OR), the frame's slots (RelL), what a step leaves (Ext). -/
namespace VL
open PySem PySem.Spec L2

inductive D where
  | non | bl (b : Bool) | int (i : Int) | str (x : Str)
  | tup (xs : List D) | lst (xs : List D)
  | dK (kvs : List (Key × D)) | dT (kvs : List (List Key × D))
  | ob (c : Str) (fs : List (Str × D))
  | fin (c : Str) (fs : List (Str × D))
  | exv (c : Str) (fs : List (Str × D))
  | scr (ns : List Int)
  | rp (p : PyData) | ty (n : String)
  | key (ks : List Key)

/-- a text of signs below 128, not too long -/
def asc (x : Str) : Bool := x.cps.all (· < 128) && decide (x.length ≤ 16777216)
def ascK : Key → Bool
  | .inl _ => true
  | .inr x => asc x
/-- what of a cell is mutable by the frame that owns it -/
inductive Sh where
  | leaf | lst (s : Sh) | dic (s : Sh)
  | exc (mg : Str → Option Value) (a : Addr) (cls : Value) (d : Option Addr)
  | ins (C : Addr) (fs : List (Str × Sh))
  | rcd (fs : List (Str × Sh))
  | rcq (fs : List (Str × Sh)) (j : Nat) (q : Addr)
  | alr (q : Addr)

mutual
/-- v bears the data d, all its objects stand in F -/
inductive Rep (K : PySem.W.Frag) (F : Hp) : V → D → Prop
  | non : Rep K F .non .non
  | bl (b : Bool) : Rep K F (.bl b) (.bl b)
  | int (i : Int) : Rep K F (.int i) (.int i)
  | str (x : Str) (h : asc x = true) : Rep K F (.str x) (.str x)
  | tup {a : Addr} {vs : List V} {ds : List D} : TupF F a vs → Reps K F vs ds → Rep K F (.ref a) (.tup ds)
  | lst {a : Addr} {vs : List V} {ds : List D} : F a = some (.lst vs) → Reps K F vs ds → Rep K F (.ref a) (.lst ds)
  | dK {a : Addr} {o : Obj} {kvs : List (Key × V)} {ds : List (Key × D)} : F a = some (.frz o (.dK kvs)) → kvs.map Prod.fst = ds.map Prod.fst → Reps K F (kvs.map Prod.snd) (ds.map Prod.snd) → Rep K F (.ref a) (.dK ds)
  | dT {a : Addr} {o : Obj} {kvs : List (List Key × V)} {ds : List (List Key × D)} : F a = some (.frz o (.dT kvs)) → kvs.map Prod.fst = ds.map Prod.fst → Reps K F (kvs.map Prod.snd) (ds.map Prod.snd) → Rep K F (.ref a) (.dT ds)
  | scr {a : Addr} {ns : List Int} : SqL K F a (ns.map V.int) → Rep K F (.ref a) (.scr ns)
  | rp (p : PyData) : Rep K F (.str p.shown) (.rp p)
  | ty (n : String) : Rep K F (.ty n) (.ty n)
  | key {a : Addr} {ks : List Key} : F a = some (.tup (ks.map kV)) → ks.all ascK = true → Rep K F (.ref a) (.key ks)
  | ob (a : Addr) (c : Str) (fs : List (Str × D)) : Rep K F (.ref a) (.ob c fs)
  | fin {C p dx : Addr} {c : Str} {fv : List (Str × V)} {fd : List (Str × D)} : PySem.W.nsIn K mainGlobals c = some (some (.ref C)) → F p = some (.ins C dx fv) → fv.map Prod.fst = fd.map Prod.fst → Reps K F (fv.map Prod.snd) (fd.map Prod.snd) → Rep K F (.ref p) (.fin c fd)
  | exn {C p : Addr} {c : Str} : PySem.W.nsIn K mainGlobals c = some (some (.ref C)) → F p = some (exo p C none) → Rep K F (.ref p) (.exv c [])
  | exv {C p dx : Addr} {c : Str} {fv : List (Str × V)} {fd : List (Str × D)} : PySem.W.nsIn K mainGlobals c = some (some (.ref C)) → F p = some (exo p C (some dx)) → F dx = some (exd dx fv) → fv.map Prod.fst = fd.map Prod.fst → Reps K F (fv.map Prod.snd) (fd.map Prod.snd) → Rep K F (.ref p) (.exv c fd)
inductive Reps (K : PySem.W.Frag) (F : Hp) : List V → List D → Prop
  | nil : Reps K F [] []
  | cons {v : V} {d : D} {vs : List V} {ds : List D} : Rep K F v d → Reps K F vs ds → Reps K F (v :: vs) (d :: ds)
end

mutual
theorem Rep.mono {K : PySem.W.Frag} {F F' : Hp} (s : Same F F') : ∀ {v : V} {d : D}, Rep K F v d → Rep K F' v d
  | _, _, .non => .non
  | _, _, .bl b => .bl b
  | _, _, .int i => .int i
  | _, _, .str x h => .str x h
  | _, _, .tup h r => .tup (h.mono s) (Reps.mono s r)
  | _, _, .lst h r => .lst (s _ _ h) (Reps.mono s r)
  | _, _, .dK h e r => .dK (s _ _ h) e (Reps.mono s r)
  | _, _, .dT h e r => .dT (s _ _ h) e (Reps.mono s r)
  | _, _, .scr h => .scr (Same.seq s h)
  | _, _, .rp p => .rp p
  | _, _, .ty n => .ty n
  | _, _, .key h e => .key (s _ _ h) e
  | _, _, .ob a c fs => .ob a c fs
  | _, _, .fin n h e r => .fin n (s _ _ h) e (Reps.mono s r)
  | _, _, .exn n h => .exn n (s _ _ h)
  | _, _, .exv n h h2 e r => .exv n (s _ _ h) (s _ _ h2) e (Reps.mono s r)
theorem Reps.mono {K : PySem.W.Frag} {F F' : Hp} (s : Same F F') : ∀ {vs : List V} {ds : List D}, Reps K F vs ds → Reps K F' vs ds
  | _, _, .nil => .nil
  | _, _, .cons h r => .cons (Rep.mono s h) (Reps.mono s r)
end
theorem Reps.length {K : PySem.W.Frag} {F : Hp} : ∀ {vs : List V} {ds : List D}, Reps K F vs ds → vs.length = ds.length
  | _, _, .nil => rfl
  | _, _, .cons _ r => by rw [List.length_cons, List.length_cons, Reps.length r]
theorem Reps.get {K : PySem.W.Frag} {F : Hp} : ∀ {vs : List V} {ds : List D} {i : Nat} {d : D}, Reps K F vs ds → ds[i]? = some d → ∃ v, vs[i]? = some v ∧ Rep K F v d
  | _, _, _, _, .nil, e => by simp at e
  | _, _, 0, _, .cons r _, e => by simp at e; subst e; exact ⟨_, rfl, r⟩
  | _, _, i + 1, d, .cons _ t, e => by
    obtain ⟨u, h1, h2⟩ := Reps.get (i := i) (d := d) t (by simpa using e)
    exact ⟨u, by simpa using h1, h2⟩
theorem Reps.append {K : PySem.W.Frag} {F : Hp} : ∀ {vs ws : List V} {ds es : List D}, Reps K F vs ds → Reps K F ws es → Reps K F (vs ++ ws) (ds ++ es)
  | _, _, _, _, .nil, s => s
  | _, _, _, _, .cons r t, s => .cons r (Reps.append t s)
theorem Reps.take {K : PySem.W.Frag} {F : Hp} : ∀ {vs : List V} {ds : List D} (n : Nat), Reps K F vs ds → Reps K F (vs.take n) (ds.take n)
  | _, _, 0, _ => .nil
  | _, _, _ + 1, .nil => .nil
  | _, _, n + 1, .cons r t => .cons r (Reps.take n t)
theorem Reps.drop {K : PySem.W.Frag} {F : Hp} : ∀ {vs : List V} {ds : List D} (n : Nat), Reps K F vs ds → Reps K F (vs.drop n) (ds.drop n)
  | _, _, 0, r => r
  | _, _, _ + 1, .nil => .nil
  | _, _, n + 1, .cons _ t => Reps.drop n t
theorem Reps.set {K : PySem.W.Frag} {F : Hp} {v : V} {d : D} (r : Rep K F v d) : ∀ {vs : List V} {ds : List D} (i : Nat), Reps K F vs ds → Reps K F (vs.set i v) (ds.set i d)
  | _, _, _, .nil => .nil
  | _, _, 0, .cons _ t => .cons r t
  | _, _, i + 1, .cons q t => .cons q (Reps.set r i t)
theorem Reps.eraseIdx {K : PySem.W.Frag} {F : Hp} : ∀ {vs : List V} {ds : List D} (i : Nat), Reps K F vs ds → Reps K F (vs.eraseIdx i) (ds.eraseIdx i)
  | _, _, _, .nil => .nil
  | _, _, 0, .cons _ t => t
  | _, _, i + 1, .cons q t => .cons q (Reps.eraseIdx i t)
theorem Reps.reverse {K : PySem.W.Frag} {F : Hp} : ∀ {vs : List V} {ds : List D}, Reps K F vs ds → Reps K F vs.reverse ds.reverse
  | _, _, .nil => .nil
  | _, _, .cons r t => by rw [List.reverse_cons, List.reverse_cons]; exact Reps.append (Reps.reverse t) (.cons r .nil)
theorem Reps.dropLast {K : PySem.W.Frag} {F : Hp} {vs : List V} {ds : List D} (h : Reps K F vs ds) : Reps K F vs.dropLast ds.dropLast := by
  rw [List.dropLast_eq_take, List.dropLast_eq_take, h.length]; exact h.take _
theorem Reps.replicate {K : PySem.W.Frag} {F : Hp} {vs : List V} {ds : List D} (h : Reps K F vs ds) : ∀ k : Nat, Reps K F (List.replicate k vs).flatten (List.replicate k ds).flatten
  | 0 => .nil
  | k + 1 => by rw [List.replicate_succ, List.replicate_succ, List.flatten_cons, List.flatten_cons]; exact h.append (Reps.replicate h k)

/-- a dict with texts for keys, as fields -/
def recK (fv : List (Str × V)) : List (Key × V) := fv.map fun x => (Sum.inr x.1, x.2)
mutual
/-- v bears d; the cells fp are owned (H has them, F not), the rest stands in F -/
inductive OR (K : PySem.W.Frag) (F H : Hp) : Sh → V → D → List Addr → Prop
  | leaf {v : V} {d : D} : Rep K F v d → OR K F H .leaf v d []
  | lst {s : Sh} {p : Addr} {vs : List V} {ds : List D} {fp : List Addr} : F p = none → H p = some (.lst vs) → ORs K F H s vs ds fp → OR K F H (.lst s) (.ref p) (.lst ds) (p :: fp)
  | dK {s : Sh} {p : Addr} {kvs : List (Key × V)} {ds : List (Key × D)} {fp : List Addr} : F p = none → H p = some (.dK kvs) → kvs.map Prod.fst = ds.map Prod.fst → ORs K F H s (kvs.map Prod.snd) (ds.map Prod.snd) fp → OR K F H (.dic s) (.ref p) (.dK ds) (p :: fp)
  | dT {s : Sh} {p : Addr} {kvs : List (List Key × V)} {ds : List (List Key × D)} {fp : List Addr} : F p = none → H p = some (.dT kvs) → kvs.map Prod.fst = ds.map Prod.fst → ORs K F H s (kvs.map Prod.snd) (ds.map Prod.snd) fp → OR K F H (.dic s) (.ref p) (.dT ds) (p :: fp)
  | exc {mg : Str → Option Value} {a C : Addr} {d : Option Addr} {c : Str} {fs : List (Str × D)} : mg c = some (.ref C) → (fs = [] ∧ d = none ∨ ∃ dd vs, d = some dd ∧ F dd = some (.xd ((fs.map Prod.fst).zip vs)) ∧ Reps K F vs (fs.map Prod.snd)) → OR K F H (.exc mg a (.ref C) d) (.ref a) (.ob c fs) []
  | ins {C p dx : Addr} {c : Str} {sf : List (Str × Sh)} {fv : List (Str × V)} {fd : List (Str × D)} {fp : List Addr} : F p = none → F dx = none → H p = some (.ins C dx fv) → H dx = some (.own p) → OF K F H sf fv fd fp → OR K F H (.ins C sf) (.ref p) (.ob c fd) (p :: dx :: fp)
  | rcd {p : Addr} {c : Str} {sf : List (Str × Sh)} {fv : List (Str × V)} {fd : List (Str × D)} {fp : List Addr} : F p = none → H p = some (.dK (recK fv)) → OF K F H sf fv fd fp → OR K F H (.rcd sf) (.ref p) (.ob c fd) (p :: fp)
  | rcq {p q : Addr} {j : Nat} {c x : Str} {sf : List (Str × Sh)} {fv : List (Str × V)} {fd : List (Str × D)} {fp : List Addr} : fv[j]? = some (x, .ref q) → F p = none → H p = some (.dK (recK fv)) → OF K F H sf fv fd fp → OR K F H (.rcq sf j q) (.ref p) (.ob c fd) (p :: fp)
  | alr {q : Addr} {c : Str} : OR K F H (.alr q) (.ref q) (.ob c []) []
inductive ORs (K : PySem.W.Frag) (F H : Hp) : Sh → List V → List D → List Addr → Prop
  | nil {s : Sh} : ORs K F H s [] [] []
  | cons {s : Sh} {v : V} {d : D} {vs : List V} {ds : List D} {f g : List Addr} : OR K F H s v d f → ORs K F H s vs ds g → ORs K F H s (v :: vs) (d :: ds) (f ++ g)
/-- the fields of an instance, in order; the last ones may be lacking yet -/
inductive OF (K : PySem.W.Frag) (F H : Hp) : List (Str × Sh) → List (Str × V) → List (Str × D) → List Addr → Prop
  | nil {sf : List (Str × Sh)} : OF K F H sf [] [] []
  | cons {x : Str} {s : Sh} {v : V} {d : D} {sf : List (Str × Sh)} {fv : List (Str × V)} {fd : List (Str × D)} {f g : List Addr} : OR K F H s v d f → OF K F H sf fv fd g → OF K F H ((x, s) :: sf) ((x, v) :: fv) ((x, d) :: fd) (f ++ g)
end
theorem OR.leafE {K : PySem.W.Frag} {F H : Hp} {v : V} {d : D} {fp : List Addr} (h : OR K F H .leaf v d fp) : Rep K F v d ∧ fp = [] := by
  cases h with | leaf r => exact ⟨r, rfl⟩
theorem ORs.leafE {K : PySem.W.Frag} {F H : Hp} : ∀ {vs : List V} {ds : List D} {fp : List Addr}, ORs K F H .leaf vs ds fp → Reps K F vs ds ∧ fp = []
  | _, _, _, .nil => ⟨.nil, rfl⟩
  | _, _, _, .cons h r => by
    obtain ⟨a, rfl⟩ := h.leafE
    obtain ⟨b, rfl⟩ := ORs.leafE r
    exact ⟨.cons a b, rfl⟩
theorem ORs.ofReps {K : PySem.W.Frag} {F H : Hp} : ∀ {vs : List V} {ds : List D}, Reps K F vs ds → ORs K F H .leaf vs ds []
  | _, _, .nil => .nil
  | _, _, .cons h r => ORs.cons (f := []) (g := []) (.leaf h) (ORs.ofReps r)

mutual
/-- the owned cells stand in H and not in F -/
theorem OR.own {K : PySem.W.Frag} {F H : Hp} : ∀ {s : Sh} {v : V} {d : D} {fp : List Addr}, OR K F H s v d fp → ∀ a ∈ fp, F a = none ∧ ∃ o, H a = some o
  | _, _, _, _, .leaf _, _, h => by simp at h
  | _, _, _, _, .exc _ _, _, h => by simp at h
  | _, _, _, _, .lst a b r, x, h => by
    rcases List.mem_cons.mp h with rfl | h
    · exact ⟨a, _, b⟩
    · exact ORs.own r x h
  | _, _, _, _, .dK a b _ r, x, h => by
    rcases List.mem_cons.mp h with rfl | h
    · exact ⟨a, _, b⟩
    · exact ORs.own r x h
  | _, _, _, _, .dT a b _ r, x, h => by
    rcases List.mem_cons.mp h with rfl | h
    · exact ⟨a, _, b⟩
    · exact ORs.own r x h
  | _, _, _, _, .ins a a2 b b2 r, x, h => by
    rcases List.mem_cons.mp h with rfl | h
    · exact ⟨a, _, b⟩
    · rcases List.mem_cons.mp h with rfl | h
      · exact ⟨a2, _, b2⟩
      · exact OF.own r x h
  | _, _, _, _, .rcd a b r, x, h => by
    rcases List.mem_cons.mp h with rfl | h
    · exact ⟨a, _, b⟩
    · exact OF.own r x h
  | _, _, _, _, .rcq _ a b r, x, h => by
    rcases List.mem_cons.mp h with rfl | h
    · exact ⟨a, _, b⟩
    · exact OF.own r x h
  | _, _, _, _, .alr, _, h => by simp at h
theorem ORs.own {K : PySem.W.Frag} {F H : Hp} : ∀ {s : Sh} {vs : List V} {ds : List D} {fp : List Addr}, ORs K F H s vs ds fp → ∀ a ∈ fp, F a = none ∧ ∃ o, H a = some o
  | _, _, _, _, .nil, _, h => by simp at h
  | _, _, _, _, .cons r t, x, h => by
    rcases List.mem_append.mp h with h | h
    · exact OR.own r x h
    · exact ORs.own t x h
theorem OF.own {K : PySem.W.Frag} {F H : Hp} : ∀ {sf : List (Str × Sh)} {fv : List (Str × V)} {fd : List (Str × D)} {fp : List Addr}, OF K F H sf fv fd fp → ∀ a ∈ fp, F a = none ∧ ∃ o, H a = some o
  | _, _, _, _, .nil, _, h => by simp at h
  | _, _, _, _, .cons r t, x, h => by
    rcases List.mem_append.mp h with h | h
    · exact OR.own r x h
    · exact OF.own t x h
end
mutual
/-- the cells stand, F grew -/
theorem OR.frame {K : PySem.W.Frag} {F H F' H' : Hp} (s0 : Same F F') : ∀ {s : Sh} {v : V} {d : D} {fp : List Addr}, OR K F H s v d fp → (∀ a ∈ fp, F' a = none ∧ H' a = H a) → OR K F' H' s v d fp
  | _, _, _, _, .leaf r, _ => .leaf (r.mono s0)
  | _, _, _, _, .exc e h, _ => .exc e (h.imp id fun ⟨dd, vs, h1, h2, h3⟩ => ⟨dd, vs, h1, s0 _ _ h2, h3.mono s0⟩)
  | _, _, _, _, .lst _ b r, h => .lst (h _ List.mem_cons_self).1 ((h _ List.mem_cons_self).2.trans b) (ORs.frame s0 r fun a m => h a (List.mem_cons_of_mem _ m))
  | _, _, _, _, .dK _ b e r, h => .dK (h _ List.mem_cons_self).1 ((h _ List.mem_cons_self).2.trans b) e (ORs.frame s0 r fun a m => h a (List.mem_cons_of_mem _ m))
  | _, _, _, _, .dT _ b e r, h => .dT (h _ List.mem_cons_self).1 ((h _ List.mem_cons_self).2.trans b) e (ORs.frame s0 r fun a m => h a (List.mem_cons_of_mem _ m))
  | _, _, _, _, .ins _ _ b b2 r, h => .ins (h _ List.mem_cons_self).1 (h _ (List.mem_cons_of_mem _ List.mem_cons_self)).1 ((h _ List.mem_cons_self).2.trans b) ((h _ (List.mem_cons_of_mem _ List.mem_cons_self)).2.trans b2) (OF.frame s0 r fun a m => h a (List.mem_cons_of_mem _ (List.mem_cons_of_mem _ m)))
  | _, _, _, _, .rcd _ b r, h => .rcd (h _ List.mem_cons_self).1 ((h _ List.mem_cons_self).2.trans b) (OF.frame s0 r fun a m => h a (List.mem_cons_of_mem _ m))
  | _, _, _, _, .rcq e _ b r, h => .rcq e (h _ List.mem_cons_self).1 ((h _ List.mem_cons_self).2.trans b) (OF.frame s0 r fun a m => h a (List.mem_cons_of_mem _ m))
  | _, _, _, _, .alr, _ => .alr
theorem ORs.frame {K : PySem.W.Frag} {F H F' H' : Hp} (s0 : Same F F') : ∀ {s : Sh} {vs : List V} {ds : List D} {fp : List Addr}, ORs K F H s vs ds fp → (∀ a ∈ fp, F' a = none ∧ H' a = H a) → ORs K F' H' s vs ds fp
  | _, _, _, _, .nil, _ => .nil
  | _, _, _, _, .cons r t, h => .cons (OR.frame s0 r fun a m => h a (List.mem_append_left _ m)) (ORs.frame s0 t fun a m => h a (List.mem_append_right _ m))
theorem OF.frame {K : PySem.W.Frag} {F H F' H' : Hp} (s0 : Same F F') : ∀ {sf : List (Str × Sh)} {fv : List (Str × V)} {fd : List (Str × D)} {fp : List Addr}, OF K F H sf fv fd fp → (∀ a ∈ fp, F' a = none ∧ H' a = H a) → OF K F' H' sf fv fd fp
  | _, _, _, _, .nil, _ => .nil
  | _, _, _, _, .cons r t, h => .cons (OR.frame s0 r fun a m => h a (List.mem_append_left _ m)) (OF.frame s0 t fun a m => h a (List.mem_append_right _ m))
end
/-- F with the cells fp as H has them -/
def frz (F H : Hp) (fp : List Addr) : Hp := fun a => if a ∈ fp then H a else F a
theorem frz_in {F H : Hp} {fp : List Addr} {a : Addr} (h : a ∈ fp) : frz F H fp a = H a := by unfold frz; rw [if_pos h]
theorem frz_out {F H : Hp} {fp : List Addr} {a : Addr} (h : a ∉ fp) : frz F H fp a = F a := by unfold frz; rw [if_neg h]
theorem frz_same {F H : Hp} {fp : List Addr} (h : ∀ a ∈ fp, F a = none) : Same F (frz F H fp) := fun a o e => by
  rw [frz_out]
  · exact e
  · intro m; rw [h a m] at e; cases e
theorem frz_sub {F H : Hp} {fp : List Addr} (s : Same F H) : Same (frz F H fp) H := fun a o e => by
  by_cases m : a ∈ fp
  · rw [frz_in m] at e; exact e
  · rw [frz_out m] at e; exact s _ _ e
/-- a cell as it is frozen: a list as it is, a dict locked -/
def Frzd (u w : Option HO) : Prop := (∀ xs, u = some (.lst xs) → w = some (.lst xs)) ∧ (∀ kvs, u = some (.dK kvs) → ∃ o, w = some (.frz o (.dK kvs))) ∧ ∀ kvs, u = some (.dT kvs) → ∃ o, w = some (.frz o (.dT kvs))
mutual
theorem OR.frozen {K : PySem.W.Frag} {F H G : Hp} (s0 : Same F G) : ∀ {s : Sh} {v : V} {d : D} {fp : List Addr}, OR K F H s v d fp → (∀ a ∈ fp, Frzd (H a) (G a)) → Rep K G v d
  | _, _, _, _, .leaf r, _ => r.mono s0
  | _, _, _, _, .exc _ _, _ => .ob _ _ _
  | _, _, _, _, .lst _ b r, h => .lst ((h _ List.mem_cons_self).1 _ b) (ORs.frozen s0 r fun a m => h a (List.mem_cons_of_mem _ m))
  | _, _, _, _, .dK _ b e r, h => let ⟨_, q⟩ := (h _ List.mem_cons_self).2.1 _ b; .dK q e (ORs.frozen s0 r fun a m => h a (List.mem_cons_of_mem _ m))
  | _, _, _, _, .dT _ b e r, h => let ⟨_, q⟩ := (h _ List.mem_cons_self).2.2 _ b; .dT q e (ORs.frozen s0 r fun a m => h a (List.mem_cons_of_mem _ m))
  | _, _, _, _, .ins _ _ _ _ _, _ => .ob _ _ _
  | _, _, _, _, .rcd _ _ _, _ => .ob _ _ _
  | _, _, _, _, .rcq _ _ _ _, _ => .ob _ _ _
  | _, _, _, _, .alr, _ => .ob _ _ _
theorem ORs.frozen {K : PySem.W.Frag} {F H G : Hp} (s0 : Same F G) : ∀ {s : Sh} {vs : List V} {ds : List D} {fp : List Addr}, ORs K F H s vs ds fp → (∀ a ∈ fp, Frzd (H a) (G a)) → Reps K G vs ds
  | _, _, _, _, .nil, _ => .nil
  | _, _, _, _, .cons r t, h => .cons (OR.frozen s0 r fun a m => h a (List.mem_append_left _ m)) (ORs.frozen s0 t fun a m => h a (List.mem_append_right _ m))
end

/-! ### the slots -/
abbrev DEnv := List (Option D)
inductive RelL (K : PySem.W.Frag) (F H : Hp) : List Sh → DEnv → St → List Addr → Prop
  | nil : RelL K F H [] [] [] []
  | non {s : Sh} {ks : List Sh} {ρ : DEnv} {σ : St} {x : Option V} {fp : List Addr} : RelL K F H ks ρ σ fp → RelL K F H (s :: ks) (none :: ρ) (x :: σ) fp
  | som {s : Sh} {ks : List Sh} {ρ : DEnv} {σ : St} {v : V} {d : D} {f fp : List Addr} : OR K F H s v d f → RelL K F H ks ρ σ fp → RelL K F H (s :: ks) (some d :: ρ) (some v :: σ) (f ++ fp)
section
variable {K : PySem.W.Frag} {F H F' H' : Hp}
theorem RelL.own : ∀ {ks : List Sh} {ρ : DEnv} {σ : St} {fp : List Addr}, RelL K F H ks ρ σ fp → ∀ a ∈ fp, F a = none ∧ ∃ o, H a = some o
  | _, _, _, _, .nil, _, h => by simp at h
  | _, _, _, _, .non r, x, h => RelL.own r x h
  | _, _, _, _, .som r t, x, h => by
    rcases List.mem_append.mp h with h | h
    · exact r.own x h
    · exact RelL.own t x h
theorem RelL.frame (s0 : Same F F') : ∀ {ks : List Sh} {ρ : DEnv} {σ : St} {fp : List Addr}, RelL K F H ks ρ σ fp → (∀ a ∈ fp, F' a = none ∧ H' a = H a) → RelL K F' H' ks ρ σ fp
  | _, _, _, _, .nil, _ => .nil
  | _, _, _, _, .non r, h => .non (RelL.frame s0 r h)
  | _, _, _, _, .som r t, h => .som (r.frame s0 fun a m => h a (List.mem_append_left _ m)) (RelL.frame s0 t fun a m => h a (List.mem_append_right _ m))
theorem RelL.lens : ∀ {ks : List Sh} {ρ : DEnv} {σ : St} {fp : List Addr}, RelL K F H ks ρ σ fp → ks.length = ρ.length ∧ ρ.length = σ.length
  | _, _, _, _, .nil => ⟨rfl, rfl⟩
  | _, _, _, _, .non r => by obtain ⟨a, b⟩ := RelL.lens r; simp [a, b]
  | _, _, _, _, .som _ r => by obtain ⟨a, b⟩ := RelL.lens r; simp [a, b]
/-- a slot taken out -/
theorem RelL.split : ∀ {ks : List Sh} {ρ : DEnv} {σ : St} {fp : List Addr} {i : Nat} {s : Sh} {d : D}, RelL K F H ks ρ σ fp → ks[i]? = some s → ρ[i]? = some (some d) →
    ∃ v f g, σ[i]? = some (some v) ∧ OR K F H s v d f ∧ RelL K F H ks (ρ.set i none) σ g ∧ fp.Perm (f ++ g)
  | _, _, _, _, i, _, _, .nil, h, _ => by simp at h
  | _, _, _, _, 0, _, _, .non r, h, e => by simp at e
  | _, _, _, _, 0, _, _, .som (f := f) (fp := fp) o r, h, e => by
    simp at h e
    subst h e
    exact ⟨_, f, fp, rfl, o, .non r, .rfl⟩
  | _, _, _, _, i + 1, _, _, .non r, h, e => by
    obtain ⟨v, f, g, a, b, c, p⟩ := RelL.split (i := i) r (by simpa using h) (by simpa using e)
    exact ⟨v, f, g, by simpa using a, b, .non c, p⟩
  | _, _, _, _, i + 1, _, _, .som (f := f0) o r, h, e => by
    obtain ⟨v, f, g, a, b, c, p⟩ := RelL.split (i := i) r (by simpa using h) (by simpa using e)
    refine ⟨v, f, f0 ++ g, by simpa using a, b, .som o c, ?_⟩
    refine (List.Perm.append_left f0 p).trans ?_
    rw [← List.append_assoc, ← List.append_assoc]
    exact List.Perm.append_right g List.perm_append_comm
/-- a slot's data forgotten -/
theorem RelL.wipe1 : ∀ {ks : List Sh} {ρ : DEnv} {σ : St} {fp : List Addr} (i : Nat), RelL K F H ks ρ σ fp → ∃ g, RelL K F H ks (ρ.set i none) σ g ∧ g.Sublist fp
  | _, _, _, _, i, .nil => ⟨[], .nil, .refl _⟩
  | _, _, _, _, 0, .non r => ⟨_, .non r, .refl _⟩
  | _, _, _, _, 0, .som o r => ⟨_, .non r, List.sublist_append_right _ _⟩
  | _, _, _, _, i + 1, .non r => by
    obtain ⟨g, a, b⟩ := RelL.wipe1 i r
    exact ⟨g, .non a, b⟩
  | _, _, _, _, i + 1, .som o r => by
    obtain ⟨g, a, b⟩ := RelL.wipe1 i r
    exact ⟨_, .som o a, List.Sublist.append (.refl _) b⟩
/-- an empty slot of the frame may hold any value -/
theorem RelL.setV : ∀ {ks : List Sh} {ρ : DEnv} {σ : St} {fp : List Addr} (i : Nat) (x : Option V), RelL K F H ks (ρ.set i none) σ fp → RelL K F H ks (ρ.set i none) (σ.set i x) fp
  | _, [], _, _, i, x, r => by cases r; exact .nil
  | _, _ :: ρ, _, _, 0, x, r => by
    rw [List.set_cons_zero] at r ⊢
    cases r with | non r => exact .non r
  | _, _ :: ρ, _, _, i + 1, x, r => by
    rw [List.set_cons_succ] at r ⊢
    cases r with
    | non r => exact .non (RelL.setV i x r)
    | som o r => exact .som o (RelL.setV i x r)
/-- a slot filled -/
theorem RelL.join {s : Sh} {v : V} {d : D} {f : List Addr} (o : OR K F H s v d f) : ∀ {ks : List Sh} {ρ : DEnv} {σ : St} {g : List Addr} {i : Nat}, RelL K F H ks (ρ.set i none) σ g → ks[i]? = some s → σ[i]? = some (some v) →
    ∃ fp, RelL K F H ks (ρ.set i (some d)) σ fp ∧ fp.Perm (f ++ g)
  | _, [], _, _, i, r, h, e => by cases r; simp at h
  | _, _ :: ρ, _, _, 0, r, h, e => by
    rw [List.set_cons_zero] at r ⊢
    cases r with
    | non r =>
      simp at h e
      subst h e
      exact ⟨_, .som o r, .rfl⟩
  | _, _ :: ρ, _, _, i + 1, r, h, e => by
    rw [List.set_cons_succ] at r ⊢
    cases r with
    | non r =>
      obtain ⟨fp, a, b⟩ := RelL.join o (i := i) r (by simpa using h) (by simpa using e)
      exact ⟨fp, .non a, b⟩
    | som o' r =>
      rename_i f0 g0
      obtain ⟨fp, a, b⟩ := RelL.join o (i := i) r (by simpa using h) (by simpa using e)
      refine ⟨_, .som o' a, ?_⟩
      refine (List.Perm.append_left f0 b).trans ?_
      rw [← List.append_assoc, ← List.append_assoc]
      exact List.Perm.append_right g0 List.perm_append_comm
end
/-- F within H, with all tuples of H -/
structure Sub (F H : Hp) : Prop where
  sm : Same F H
  tp : ∀ a xs, H a = some (.tup xs) → F a = some (.tup xs)
instance {F H : Hp} : Coe (Sub F H) (Same F H) := ⟨Sub.sm⟩
instance {F H : Hp} : CoeFun (Sub F H) (fun _ => ∀ a o, F a = some o → H a = some o) := ⟨fun s => s.sm⟩
/-- the state: F within H, the slots -/
structure Rel (K : PySem.W.Frag) (ks : List Sh) (F H : Hp) (ρ : DEnv) (σ : St) (fp : List Addr) : Prop where
  sub : Sub F H
  nd : fp.Nodup
  sl : RelL K F H ks ρ σ fp
/-- what a step leaves: outside fp all stands, and F has grown by new cells alone; gp is of fp or new -/
structure Ext (F H : Hp) (fp : List Addr) (F' H' : Hp) (gp : List Addr) : Prop where
  keep : ∀ a o, H a = some o → a ∉ fp → H' a = some o ∧ F' a = F a
  fr : ∀ a ∈ gp, a ∈ fp ∨ H a = none
section
variable {F H F1 H1 F2 H2 : Hp} {fp f1 f2 g g' : List Addr}
theorem Ext.refl : Ext F H fp F H fp := ⟨fun _ _ e _ => ⟨e, rfl⟩, fun _ m => .inl m⟩
theorem Ext.trans (a : Ext F H fp F1 H1 f1) (b : Ext F1 H1 f1 F2 H2 f2) : Ext F H fp F2 H2 f2 := by
  have nin : ∀ {x : Addr} {o : HO}, H x = some o → x ∉ fp → x ∉ f1 := fun {x o} e n m => by
    rcases a.fr x m with z | z
    · exact n z
    · rw [z] at e; cases e
  refine ⟨fun x o e n => ?_, fun x m => ?_⟩
  · obtain ⟨p, q⟩ := a.keep x o e n
    obtain ⟨p', q'⟩ := b.keep x o p (nin e n)
    exact ⟨p', q'.trans q⟩
  · by_cases n : x ∈ fp
    · exact .inl n
    · refine .inr ?_
      rcases b.fr x m with z | z
      · exact (a.fr x z).resolve_left n
      · cases e : H x with
        | none => rfl
        | some o =>
          obtain ⟨p, _⟩ := a.keep x o e n
          rw [z] at p; cases p
theorem Ext.sub (a : Ext F H fp F1 H1 g) (h : ∀ x ∈ g', x ∈ g) : Ext F H fp F1 H1 g' := ⟨a.keep, fun x m => a.fr x (h x m)⟩
/-- F only grows -/
theorem Ext.same (a : Ext F H fp F1 H1 g) (s : Same F H) (o : ∀ x ∈ fp, F x = none) : Same F F1 := fun x y e => by
  obtain ⟨_, q⟩ := a.keep x y (s x y e) fun m => by rw [o x m] at e; cases e
  rw [q]; exact e
end
end VL
/-! V2: results, the judgements of soundness, views, the general rules. -/
namespace VL
open PySem PySem.Spec L2

/-- an exception: its class by name, its fields -/
structure Ex where
  c : Str
  fs : List (Str × D)
inductive R (α : Type) where
  | ok (a : α) (ρ : DEnv) | ex (e : Ex) (ρ : DEnv) | no
def R.bind {α β : Type} (r : R α) (f : α → DEnv → R β) : R β := match r with
  | .ok a ρ => f a ρ
  | .ex e ρ => .ex e ρ
  | .no => .no
@[simp] theorem R.bind_ok {α β : Type} (a : α) (ρ : DEnv) (f : α → DEnv → R β) : (R.ok a ρ).bind f = f a ρ := rfl
@[simp] theorem R.bind_ex {α β : Type} (e : Ex) (ρ : DEnv) (f : α → DEnv → R β) : (R.ex e ρ : R α).bind f = .ex e ρ := rfl
@[simp] theorem R.bind_no {α β : Type} (f : α → DEnv → R β) : (R.no : R α).bind f = .no := rfl
/-- a value or nothing -/
def R.of {α : Type} (o : Option α) (ρ : DEnv) : R α := match o with
  | some a => .ok a ρ
  | none => .no
@[simp] theorem R.of_some {α : Type} (a : α) (ρ : DEnv) : R.of (some a) ρ = .ok a ρ := rfl
@[simp] theorem R.of_none {α : Type} (ρ : DEnv) : (R.of none ρ : R α) = .no := rfl
abbrev ME := DEnv → R D
abbrev MT := DEnv → R Bool
abbrev MA := DEnv → R (List D)

/-- what stands fast in a def -/
structure Bd where
  K : PySem.W.Frag
  mg : Str → Option Value
  ks : List Sh
  W : WX
/-- an exception as it lies -/
def ExR (b : Bd) (F : Hp) (e : Ex) (cls : Value) (dx : Option Addr) : Prop :=
  ∃ C, b.mg e.c = some (.ref C) ∧ cls = .ref C ∧ (e.fs = [] ∧ dx = none ∨ ∃ d vs, dx = some d ∧ F d = some (.xd ((e.fs.map Prod.fst).zip vs)) ∧ Reps b.K F vs (e.fs.map Prod.snd))
/-- the exception's end -/
def OkX (b : Bd) (F H : Hp) (fp : List Addr) (σ : St) (e : Ex) (ρ' : DEnv) : Prop :=
  ∀ cls dx F' H' fp', Rel b.K b.ks F' H' ρ' σ fp' → Ext F H fp F' H' fp' → ExR b F' e cls dx → b.W cls dx σ H'
def OkE (b : Bd) (sh : Sh) (F H : Hp) (fp : List Addr) (σ : St) (Q : VK) : R D → Prop
  | .no => False
  | .ok d ρ' => ∀ v F' H' fp' fv, Rel b.K b.ks F' H' ρ' σ fp' → (fp' ++ fv).Nodup → Ext F H fp F' H' (fp' ++ fv) → OR b.K F' H' sh v d fv → Q v H'
  | .ex e ρ' => OkX b F H fp σ e ρ'
def OkT (b : Bd) (F H : Hp) (fp : List Addr) (σ : St) (Q : Bool → Hp → Prop) : R Bool → Prop
  | .no => False
  | .ok c ρ' => ∀ F' H' fp', Rel b.K b.ks F' H' ρ' σ fp' → Ext F H fp F' H' fp' → Q c H'
  | .ex e ρ' => OkX b F H fp σ e ρ'
def OkA (b : Bd) (F H : Hp) (fp : List Addr) (σ : St) (Q : List V → Hp → Prop) : R (List D) → Prop
  | .no => False
  | .ok ds ρ' => ∀ vs F' H' fp', Rel b.K b.ks F' H' ρ' σ fp' → Ext F H fp F' H' fp' → Reps b.K F' vs ds → Q vs H'
  | .ex e ρ' => OkX b F H fp σ e ρ'
/-- an operand: a value, or the owned thing of a slot (its data is looked up when it is used) -/
inductive Opd where
  | v (d : D) | s (i : Nat)
abbrev MO := DEnv → R Opd
def Opd.get : Opd → DEnv → Option D
  | .v d, _ => some d
  | .s i, ρ => (ρ[i]?).bind id
def OpdOk (b : Bd) (F : Hp) (σ : St) (x : V) : Opd → Prop
  | .v d => Rep b.K F x d
  | .s i => σ[i]? = some (some x) ∧ (b.ks[i]? = some (.lst .leaf) ∨ b.ks[i]? = some (.dic .leaf))
def OkO (b : Bd) (F H : Hp) (fp : List Addr) (σ : St) (Q : VK) : R Opd → Prop
  | .no => False
  | .ok o ρ' => ∀ v F' H' fp', Rel b.K b.ks F' H' ρ' σ fp' → Ext F H fp F' H' fp' → OpdOk b F' σ v o → Q v H'
  | .ex e ρ' => OkX b F H fp σ e ρ'
def OkOs (b : Bd) (F H : Hp) (fp : List Addr) (σ : St) (Q : List V → Hp → Prop) : R (List Opd) → Prop
  | .no => False
  | .ok os ρ' => ∀ vs F' H' fp', Rel b.K b.ks F' H' ρ' σ fp' → Ext F H fp F' H' fp' → Paired (fun o v => OpdOk b F' σ v o) os vs → Q vs H'
  | .ex e ρ' => OkX b F H fp σ e ρ'

def SndE (b : Bd) (sh : Sh) (t : TE) (m : ME) : Prop := ∀ ρ σ F H fp Q, Rel b.K b.ks F H ρ σ fp → OkE b sh F H fp σ Q (m ρ) → t σ H Q
def SndT (b : Bd) (t : TT) (m : MT) : Prop := ∀ ρ σ F H fp Q, Rel b.K b.ks F H ρ σ fp → OkT b F H fp σ Q (m ρ) → t σ H Q
def SndA (b : Bd) (t : TA) (m : MA) : Prop := ∀ ρ σ F H fp Q, Rel b.K b.ks F H ρ σ fp → OkA b F H fp σ Q (m ρ) → t σ H Q
def SndO (b : Bd) (t : TE) (m : MO) : Prop := ∀ ρ σ F H fp Q, Rel b.K b.ks F H ρ σ fp → OkO b F H fp σ Q (m ρ) → t σ H Q
def SndOs (b : Bd) (t : TA) (m : DEnv → R (List Opd)) : Prop := ∀ ρ σ F H fp Q, Rel b.K b.ks F H ρ σ fp → OkOs b F H fp σ Q (m ρ) → t σ H Q

section
variable {b : Bd} {sh : Sh} {F H F1 H1 : Hp} {fp f1 : List Addr} {σ : St}
theorem OkX.ext {e : Ex} {ρ' : DEnv} (a : Ext F H fp F1 H1 f1) (h : OkX b F H fp σ e ρ') : OkX b F1 H1 f1 σ e ρ' := fun cls dx F' H' fp' r x => h cls dx F' H' fp' r (a.trans x)
theorem OkE.ext {Q : VK} (a : Ext F H fp F1 H1 f1) : ∀ {r : R D}, OkE b sh F H fp σ Q r → OkE b sh F1 H1 f1 σ Q r
  | .no, h => h
  | .ok d ρ', h => fun v F' H' fp' fv r n x o => h v F' H' fp' fv r n (a.trans x) o
  | .ex e ρ', h => OkX.ext a h
theorem OkT.ext {Q : Bool → Hp → Prop} (a : Ext F H fp F1 H1 f1) : ∀ {r : R Bool}, OkT b F H fp σ Q r → OkT b F1 H1 f1 σ Q r
  | .no, h => h
  | .ok d ρ', h => fun F' H' fp' r x => h F' H' fp' r (a.trans x)
  | .ex e ρ', h => OkX.ext a h
theorem OkA.ext {Q : List V → Hp → Prop} (a : Ext F H fp F1 H1 f1) : ∀ {r : R (List D)}, OkA b F H fp σ Q r → OkA b F1 H1 f1 σ Q r
  | .no, h => h
  | .ok d ρ', h => fun v F' H' fp' r x => h v F' H' fp' r (a.trans x)
  | .ex e ρ', h => OkX.ext a h
theorem OkO.ext {Q : VK} (a : Ext F H fp F1 H1 f1) : ∀ {r : R Opd}, OkO b F H fp σ Q r → OkO b F1 H1 f1 σ Q r
  | .no, h => h
  | .ok d ρ', h => fun v F' H' fp' r x => h v F' H' fp' r (a.trans x)
  | .ex e ρ', h => OkX.ext a h
theorem OkOs.ext {Q : List V → Hp → Prop} (a : Ext F H fp F1 H1 f1) : ∀ {r : R (List Opd)}, OkOs b F H fp σ Q r → OkOs b F1 H1 f1 σ Q r
  | .no, h => h
  | .ok d ρ', h => fun v F' H' fp' r x => h v F' H' fp' r (a.trans x)
  | .ex e ρ', h => OkX.ext a h
theorem Rel.same {K : PySem.W.Frag} {ks : List Sh} {ρ : DEnv} (r : Rel K ks F H ρ σ fp) (a : Ext F H fp F1 H1 f1) : Same F F1 := a.same r.sub fun x m => (r.sl.own x m).1
theorem OpdOk.mono {v : V} (s : Same F F1) : ∀ {o : Opd}, OpdOk b F σ v o → OpdOk b F1 σ v o
  | .v d, h => Rep.mono s h
  | .s i, h => h
end

/-! ### one step, then another -/
section
variable {b : Bd} {t : TE} {ρ : DEnv} {σ : St} {F H : Hp} {fp : List Addr} {P : VK}
theorem SndE.go {m : ME} (h : SndE b .leaf t m) (r : Rel b.K b.ks F H ρ σ fp) {α : Type} {f : D → DEnv → R α} {Ok : R α → Prop} (hok : Ok ((m ρ).bind f)) (hn : ¬ Ok .no) (hx : ∀ e ρ1, Ok (.ex e ρ1) → OkX b F H fp σ e ρ1)
    (k : ∀ d ρ1 v F1 H1 fp1, Ok (f d ρ1) → Rel b.K b.ks F1 H1 ρ1 σ fp1 → Ext F H fp F1 H1 fp1 → Rep b.K F1 v d → P v H1) : t σ H P := by
  refine h ρ σ F H fp P r ?_
  cases e : m ρ with
  | no => rw [e] at hok; exact (hn hok).elim
  | ex x ρ1 => rw [e] at hok; exact hx _ _ hok
  | ok d ρ1 =>
    rw [e] at hok
    intro v F1 H1 fp1 fv r1 nd x1 o1
    obtain ⟨rp, rfl⟩ := o1.leafE
    rw [List.append_nil] at x1
    exact k d ρ1 v F1 H1 fp1 hok r1 x1 rp
theorem SndO.go {m : MO} (h : SndO b t m) (r : Rel b.K b.ks F H ρ σ fp) {α : Type} {f : Opd → DEnv → R α} {Ok : R α → Prop} (hok : Ok ((m ρ).bind f)) (hn : ¬ Ok .no) (hx : ∀ e ρ1, Ok (.ex e ρ1) → OkX b F H fp σ e ρ1)
    (k : ∀ o ρ1 v F1 H1 fp1, Ok (f o ρ1) → Rel b.K b.ks F1 H1 ρ1 σ fp1 → Ext F H fp F1 H1 fp1 → OpdOk b F1 σ v o → P v H1) : t σ H P := by
  refine h ρ σ F H fp P r ?_
  cases e : m ρ with
  | no => rw [e] at hok; exact (hn hok).elim
  | ex x ρ1 => rw [e] at hok; exact hx _ _ hok
  | ok d ρ1 =>
    rw [e] at hok
    intro v F1 H1 fp1 r1 x1 o1
    exact k d ρ1 v F1 H1 fp1 hok r1 x1 o1
end
section
variable {b : Bd} {ρ : DEnv} {σ : St} {F H : Hp} {fp : List Addr}
theorem SndT.go {t : TT} {P : Bool → Hp → Prop} {m : MT} (h : SndT b t m) (r : Rel b.K b.ks F H ρ σ fp) {α : Type} {f : Bool → DEnv → R α} {Ok : R α → Prop} (hok : Ok ((m ρ).bind f)) (hn : ¬ Ok .no) (hx : ∀ e ρ1, Ok (.ex e ρ1) → OkX b F H fp σ e ρ1)
    (k : ∀ c ρ1 F1 H1 fp1, Ok (f c ρ1) → Rel b.K b.ks F1 H1 ρ1 σ fp1 → Ext F H fp F1 H1 fp1 → P c H1) : t σ H P := by
  refine h ρ σ F H fp P r ?_
  cases e : m ρ with
  | no => rw [e] at hok; exact (hn hok).elim
  | ex x ρ1 => rw [e] at hok; exact hx _ _ hok
  | ok d ρ1 =>
    rw [e] at hok
    intro F1 H1 fp1 r1 x1
    exact k d ρ1 F1 H1 fp1 hok r1 x1
theorem SndA.go {t : TA} {P : List V → Hp → Prop} {m : MA} (h : SndA b t m) (r : Rel b.K b.ks F H ρ σ fp) {α : Type} {f : List D → DEnv → R α} {Ok : R α → Prop} (hok : Ok ((m ρ).bind f)) (hn : ¬ Ok .no) (hx : ∀ e ρ1, Ok (.ex e ρ1) → OkX b F H fp σ e ρ1)
    (k : ∀ ds ρ1 vs F1 H1 fp1, Ok (f ds ρ1) → Rel b.K b.ks F1 H1 ρ1 σ fp1 → Ext F H fp F1 H1 fp1 → Reps b.K F1 vs ds → P vs H1) : t σ H P := by
  refine h ρ σ F H fp P r ?_
  cases e : m ρ with
  | no => rw [e] at hok; exact (hn hok).elim
  | ex x ρ1 => rw [e] at hok; exact hx _ _ hok
  | ok d ρ1 =>
    rw [e] at hok
    intro v F1 H1 fp1 r1 x1 o1
    exact k d ρ1 v F1 H1 fp1 hok r1 x1 o1
theorem SndOs.go {t : TA} {P : List V → Hp → Prop} {m : DEnv → R (List Opd)} (h : SndOs b t m) (r : Rel b.K b.ks F H ρ σ fp) {α : Type} {f : List Opd → DEnv → R α} {Ok : R α → Prop} (hok : Ok ((m ρ).bind f)) (hn : ¬ Ok .no) (hx : ∀ e ρ1, Ok (.ex e ρ1) → OkX b F H fp σ e ρ1)
    (k : ∀ ds ρ1 vs F1 H1 fp1, Ok (f ds ρ1) → Rel b.K b.ks F1 H1 ρ1 σ fp1 → Ext F H fp F1 H1 fp1 → Paired (fun o v => OpdOk b F1 σ v o) ds vs → P vs H1) : t σ H P := by
  refine h ρ σ F H fp P r ?_
  cases e : m ρ with
  | no => rw [e] at hok; exact (hn hok).elim
  | ex x ρ1 => rw [e] at hok; exact hx _ _ hok
  | ok d ρ1 =>
    rw [e] at hok
    intro v F1 H1 fp1 r1 x1 o1
    exact k d ρ1 v F1 H1 fp1 hok r1 x1 o1
end

/-! ### views: a value as it is read now; its parts in F -/
inductive Vw (K : PySem.W.Frag) (F H : Hp) : V → D → Prop
  | rep {v : V} {d : D} : Rep K F v d → Vw K F H v d
  | lst {p : Addr} {vs : List V} {ds : List D} : H p = some (.lst vs) → Reps K F vs ds → Vw K F H (.ref p) (.lst ds)
  | dK {p : Addr} {kvs : List (Key × V)} {ds : List (Key × D)} : H p = some (.dK kvs) → kvs.map Prod.fst = ds.map Prod.fst → Reps K F (kvs.map Prod.snd) (ds.map Prod.snd) → Vw K F H (.ref p) (.dK ds)
  | dT {p : Addr} {kvs : List (List Key × V)} {ds : List (List Key × D)} : H p = some (.dT kvs) → kvs.map Prod.fst = ds.map Prod.fst → Reps K F (kvs.map Prod.snd) (ds.map Prod.snd) → Vw K F H (.ref p) (.dT ds)
/-- no dict -/
def D.nod : D → Bool
  | .dK _ => false
  | .dT _ => false
  | _ => true
theorem Vw.whole {K : PySem.W.Frag} {F H : Hp} (s : Sub F H) {v : V} {d : D} (h : Vw K F H v d) (nd : d.nod = true) : Rep K H v d := by
  cases h with
  | rep r => exact r.mono s
  | lst e r => exact .lst e (r.mono s)
  | dK e k r => cases nd
  | dT e k r => cases nd
theorem Vw.lstE {K : PySem.W.Frag} {F H : Hp} (s : Sub F H) {v : V} {ds : List D} (h : Vw K F H v (.lst ds)) : ∃ p vs, v = .ref p ∧ H p = some (.lst vs) ∧ Reps K F vs ds := by
  cases h with
  | rep r => cases r with | lst e r => exact ⟨_, _, rfl, s _ _ e, r⟩
  | lst e r => exact ⟨_, _, rfl, e, r⟩
theorem Vw.keyE {K : PySem.W.Frag} {F H : Hp} {v : V} {ks : List Key} (h : Vw K F H v (.key ks)) : ∃ p, v = .ref p ∧ F p = some (.tup (ks.map kV)) ∧ ks.all ascK = true := by
  cases h with
  | rep r => cases r with | key e r => exact ⟨_, rfl, e, r⟩
theorem Vw.tupE {K : PySem.W.Frag} {F H : Hp} {v : V} {ds : List D} (h : Vw K F H v (.tup ds)) : ∃ p vs, v = .ref p ∧ TupF F p vs ∧ Reps K F vs ds := by
  cases h with
  | rep r => cases r with | tup e r => exact ⟨_, _, rfl, e, r⟩
theorem Vw.strE {K : PySem.W.Frag} {F H : Hp} {v : V} {x : Str} (h : Vw K F H v (.str x)) : v = .str x ∧ asc x = true := by
  cases h with
  | rep r => cases r with | str _ e => exact ⟨rfl, e⟩
theorem Vw.intE {K : PySem.W.Frag} {F H : Hp} {v : V} {x : Int} (h : Vw K F H v (.int x)) : v = .int x := by
  cases h with
  | rep r => cases r; rfl
theorem Vw.blE {K : PySem.W.Frag} {F H : Hp} {v : V} {x : Bool} (h : Vw K F H v (.bl x)) : v = .bl x := by
  cases h with
  | rep r => cases r; rfl
theorem Vw.nonE {K : PySem.W.Frag} {F H : Hp} {v : V} (h : Vw K F H v .non) : v = .non := by
  cases h with
  | rep r => cases r; rfl
theorem Vw.scrE {K : PySem.W.Frag} {F H : Hp} {v : V} {ns : List Int} (s : Sub F H) (h : Vw K F H v (.scr ns)) : ∃ p, v = .ref p ∧ SqL K H p (ns.map V.int) := by
  cases h with
  | rep r => cases r with | scr e => exact ⟨_, rfl, Same.seq s e⟩
theorem Vw.dKE {K : PySem.W.Frag} {F H : Hp} (s : Sub F H) {v : V} {ds : List (Key × D)} (h : Vw K F H v (.dK ds)) : ∃ p kvs, v = .ref p ∧ Rd H p (.dK kvs) ∧ kvs.map Prod.fst = ds.map Prod.fst ∧ Reps K F (kvs.map Prod.snd) (ds.map Prod.snd) := by
  cases h with
  | rep r => cases r with | dK e k r => exact ⟨_, _, rfl, .inr ⟨_, s _ _ e⟩, k, r⟩
  | dK e k r => exact ⟨_, _, rfl, .inl e, k, r⟩
theorem Vw.dTE {K : PySem.W.Frag} {F H : Hp} (s : Sub F H) {v : V} {ds : List (List Key × D)} (h : Vw K F H v (.dT ds)) : ∃ p kvs, v = .ref p ∧ Rd H p (.dT kvs) ∧ kvs.map Prod.fst = ds.map Prod.fst ∧ Reps K F (kvs.map Prod.snd) (ds.map Prod.snd) := by
  cases h with
  | rep r => cases r with | dT e k r => exact ⟨_, _, rfl, .inr ⟨_, s _ _ e⟩, k, r⟩
  | dT e k r => exact ⟨_, _, rfl, .inl e, k, r⟩
/-- an operand is viewed -/
theorem OpdOk.vw {b : Bd} {F H : Hp} {ρ : DEnv} {σ : St} {fp : List Addr} {v : V} {o : Opd} {d : D} (h : OpdOk b F σ v o) (r : Rel b.K b.ks F H ρ σ fp) (e : o.get ρ = some d) : Vw b.K F H v d := by
  cases o with
  | v x => cases e; exact .rep h
  | s i =>
    obtain ⟨e1, e2⟩ := h
    have e3 : ρ[i]? = some (some d) := by
      have q : (ρ[i]?).bind id = some d := e
      cases z : ρ[i]? with
      | none => rw [z] at q; cases q
      | some y => rw [z] at q; have q' : y = some d := q; rw [q']
    rcases e2 with e2 | e2
    · obtain ⟨w, f, g, s1, o1, _, _⟩ := r.sl.split e2 e3
      rw [e1] at s1; cases s1
      cases o1 with
      | lst a c q => obtain ⟨q1, _⟩ := q.leafE; exact .lst c q1
    · obtain ⟨w, f, g, s1, o1, _, _⟩ := r.sl.split e2 e3
      rw [e1] at s1; cases s1
      cases o1 with
      | dK a c k q => obtain ⟨q1, _⟩ := q.leafE; exact .dK c k q1
      | dT a c k q => obtain ⟨q1, _⟩ := q.leafE; exact .dT c k q1

/-! ### operations by values: only new cells are laid -/
structure Alc (F H F' H' : Hp) : Prop where
  sub : Sub F' H'
  keep : ∀ a o, H a = some o → H' a = some o ∧ F' a = F a
def OkV (K : PySem.W.Frag) (sh : Sh) (F H : Hp) (Q : VK) (z : D) : Prop :=
  ∀ v F' H' fv, Alc F H F' H' → (∀ a ∈ fv, H a = none) → fv.Nodup → OR K F' H' sh v z fv → Q v H'
section
variable {K : PySem.W.Frag} {sh : Sh} {F H : Hp} {Q : VK} {z : D}
theorem Alc.refl (s : Sub F H) : Alc F H F H := ⟨s, fun _ _ e => ⟨e, rfl⟩⟩
theorem Alc.same {F' H' : Hp} (a : Alc F H F' H') (s : Sub F H) : Same F F' := fun x o e => by rw [(a.keep x o (s _ _ e)).2]; exact e
theorem OkV.here (s : Sub F H) (h : OkV K .leaf F H Q z) {v : V} (r : Rep K F v z) : Q v H := h v F H [] (.refl s) (fun _ m => by simp at m) List.nodup_nil (.leaf r)
theorem sub_upd {p : Addr} {o : HO} (s : Sub F H) : Sub (upd F p o) (upd H p o) := by
  refine ⟨fun a x e => ?_, fun a x e => ?_⟩
  · by_cases m : a = p
    · subst m; rw [upd_same] at e ⊢; exact e
    · rw [upd_ne m] at e ⊢; exact s _ _ e
  · by_cases m : a = p
    · subst m; rw [upd_same] at e ⊢; exact e
    · rw [upd_ne m] at e ⊢; exact s.tp _ _ e
theorem sub_updH {p : Addr} {o : HO} (s : Sub F H) (n : F p = none) (nt : ∀ xs, o ≠ .tup xs) : Sub F (upd H p o) := by
  refine ⟨fun a x e => ?_, fun a x e => ?_⟩
  · have m : a ≠ p := fun z => by rw [z, n] at e; cases e
    rw [upd_ne m]; exact s _ _ e
  · by_cases m : a = p
    · subst m; rw [upd_same] at e; exact absurd (Option.some.inj e) (nt _)
    · rw [upd_ne m] at e; exact s.tp _ _ e
theorem sub_none {p : Addr} (s : Sub F H) (n : H p = none) : F p = none := by
  cases e : F p with
  | none => rfl
  | some y => have q := s _ _ e; rw [n] at q; cases q
theorem upd_alc {p : Addr} {o : HO} (s : Sub F H) (n : H p = none) : Alc F H (upd F p o) (upd H p o) := by
  have nF : F p = none := by
    cases e : F p with
    | none => rfl
    | some y => have q := s _ _ e; rw [n] at q; cases q
  refine ⟨sub_upd s, fun a x e => ?_⟩
  · have m : a ≠ p := fun z => by rw [z, n] at e; cases e
    rw [upd_ne m, upd_ne m]; exact ⟨e, rfl⟩
theorem upd_alcH {p : Addr} {o : HO} (s : Sub F H) (n : H p = none) (nt : ∀ xs, o ≠ .tup xs := by intro _ z; cases z) : Alc F H F (upd H p o) := by
  refine ⟨sub_updH s (sub_none s n) nt, fun a x e => ?_⟩
  · have m : a ≠ p := fun z => by rw [z, n] at e; cases e
    rw [upd_ne m]; exact ⟨e, rfl⟩
/-- a new tuple, frozen -/
theorem OkV.newT (s : Sub F H) {ds : List D} {vs : List V} (h : OkV K .leaf F H Q (.tup ds)) (r : Reps K F vs ds) {p : Addr} {us : List Value} (n : H p = none) : Q (.ref p) (upd H p (tupC us vs)) := by
  have a := upd_alc (o := tupC us vs) s n
  exact h _ _ _ [] a (fun _ m => by simp at m) List.nodup_nil (.leaf (.tup ⟨us, upd_same⟩ (r.mono (a.same s))))
theorem OkV.newLf (s : Sub F H) {ds : List D} {vs : List V} (h : OkV K .leaf F H Q (.lst ds)) (r : Reps K F vs ds) {p : Addr} (n : H p = none) : Q (.ref p) (upd H p (.lst vs)) := by
  have a := upd_alc (o := .lst vs) s n
  exact h _ _ _ [] a (fun _ m => by simp at m) List.nodup_nil (.leaf (.lst upd_same (r.mono (a.same s))))
/-- a new list, owned -/
theorem OkV.newL (s : Sub F H) {ds : List D} {vs : List V} (h : OkV K (.lst .leaf) F H Q (.lst ds)) (r : Reps K F vs ds) {p : Addr} (n : H p = none) : Q (.ref p) (upd H p (.lst vs)) := by
  have a := upd_alcH (o := .lst vs) s n
  have nF : F p = none := by
    cases e : F p with
    | none => rfl
    | some y => have q := s _ _ e; rw [n] at q; cases q
  exact h _ _ _ [p] a (fun x m => by simp at m; subst m; exact n) (by simp) (.lst nF upd_same (ORs.ofReps r))
end
/-- the state behind an operation -/
theorem Alc.rel {K : PySem.W.Frag} {ks : List Sh} {ρ : DEnv} {σ : St} {F H F' H' : Hp} {fp fv : List Addr} (r : Rel K ks F H ρ σ fp) (a : Alc F H F' H') (n : ∀ x ∈ fv, H x = none) (nd : fv.Nodup) :
    Rel K ks F' H' ρ σ fp ∧ (fp ++ fv).Nodup ∧ Ext F H fp F' H' (fp ++ fv) := by
  refine ⟨⟨a.sub, r.nd, r.sl.frame (a.same r.sub) fun x m => ?_⟩, ?_, ⟨fun x o e _ => a.keep x o e, fun x m => ?_⟩⟩
  · obtain ⟨h1, o, h2⟩ := r.sl.own x m
    obtain ⟨k1, k2⟩ := a.keep x o h2
    exact ⟨k2.trans h1, k1.trans h2.symm⟩
  · refine List.nodup_append.mpr ⟨r.nd, nd, fun x m y m' z => ?_⟩
    subst z
    obtain ⟨_, o, h2⟩ := r.sl.own x m
    rw [n x m'] at h2; cases h2
  · rcases List.mem_append.mp m with m | m
    · exact .inl m
    · exact .inr (n x m)
theorem OkE.done {b : Bd} {sh : Sh} {F H : Hp} {fp : List Addr} {σ : St} {Q : VK} {z : D} {ρ : DEnv} (h : OkE b sh F H fp σ Q (.ok z ρ)) (r : Rel b.K b.ks F H ρ σ fp) : OkV b.K sh F H Q z := fun v F' H' fv a n nd o => by
  obtain ⟨r', nd', x'⟩ := a.rel r n nd
  exact h v F' H' fp fv r' nd' x' o
/-- one, two operands; a list of operands -/
def Op1 (K : PySem.W.Frag) (sh : Sh) (r : V → Hp → VK → Prop) (f : D → Option D) : Prop := ∀ F H x d z Q, Sub F H → Vw K F H x d → f d = some z → OkV K sh F H Q z → r x H Q
def Op2 (K : PySem.W.Frag) (sh : Sh) (r : R2) (f : D → D → Option D) : Prop := ∀ F H x y d e z Q, Sub F H → Vw K F H x d → Vw K F H y e → f d e = some z → OkV K sh F H Q z → r x y H Q
def OpN (K : PySem.W.Frag) (sh : Sh) (r : List V → Hp → VK → Prop) (f : List D → Option D) : Prop := ∀ F H xs ds z Q, Sub F H → Paired (fun d x => Vw K F H x d) ds xs → f ds = some z → OkV K sh F H Q z → r xs H Q
def mOp1 (f : D → Option D) (a : MO) : ME := fun ρ => (a ρ).bind fun x ρ1 => R.of ((x.get ρ1).bind f) ρ1
def mOp2 (f : D → D → Option D) (a b : MO) : ME := fun ρ => (a ρ).bind fun x ρ1 => (b ρ1).bind fun y ρ2 => R.of ((x.get ρ2).bind fun d => (y.get ρ2).bind fun e => f d e) ρ2
def getAll : List Opd → DEnv → Option (List D)
  | [], _ => some []
  | o :: os, ρ => (o.get ρ).bind fun d => (getAll os ρ).bind fun ds => some (d :: ds)
def mOpN (f : List D → Option D) (a : DEnv → R (List Opd)) : ME := fun ρ => (a ρ).bind fun xs ρ1 => R.of ((getAll xs ρ1).bind f) ρ1
section
variable {b : Bd} {sh : Sh} {ta tb : TE}
theorem snd_op1 {r : V → Hp → VK → Prop} {f : D → Option D} {a : MO} (ho : Op1 b.K sh r f) (ha : SndO b ta a) : SndE b sh (tUn r ta) (mOp1 f a) := by
  intro ρ σ F H fp Q r0 hok
  refine ha.go r0 (Ok := OkE b sh F H fp σ Q) hok (fun z => z) (fun _ _ z => z) fun x ρ1 v F1 H1 fp1 h1 r1 x1 o1 => ?_
  cases e1 : x.get ρ1 with
  | none => rw [e1] at h1; exact (show False from h1).elim
  | some d =>
    rw [e1] at h1
    cases e2 : f d with
    | none => rw [Option.bind_some, e2] at h1; exact (show False from h1).elim
    | some z =>
      rw [Option.bind_some, e2] at h1
      exact ho F1 H1 v d z Q r1.sub (o1.vw r1 e1) e2 ((h1.ext x1).done r1)
theorem snd_op2 {r : R2} {f : D → D → Option D} {a c : MO} (ho : Op2 b.K sh r f) (ha : SndO b ta a) (hc : SndO b tb c) : SndE b sh (tOp r ta tb) (mOp2 f a c) := by
  intro ρ σ F H fp Q r0 hok
  refine ha.go r0 (Ok := OkE b sh F H fp σ Q) hok (fun z => z) (fun _ _ z => z) fun x ρ1 v F1 H1 fp1 h1 r1 x1 o1 => ?_
  refine hc.go r1 (Ok := OkE b sh F1 H1 fp1 σ Q) (h1.ext x1) (fun z => z) (fun _ _ z => z) fun y ρ2 u F2 H2 fp2 h2 r2 x2 o2 => ?_
  have o1' := o1.mono (r1.same x2)
  cases e1 : x.get ρ2 with
  | none => rw [e1] at h2; exact (show False from h2).elim
  | some d =>
    cases e2 : y.get ρ2 with
    | none => rw [e1, e2] at h2; exact (show False from h2).elim
    | some e =>
      cases e3 : f d e with
      | none => rw [e1, e2, Option.bind_some, Option.bind_some, e3] at h2; exact (show False from h2).elim
      | some z =>
        rw [e1, e2, Option.bind_some, Option.bind_some, e3] at h2
        exact ho F2 H2 v u d e z Q r2.sub (o1'.vw r2 e1) (o2.vw r2 e2) e3 ((h2.ext x2).done r2)
theorem getAll_vw {F H : Hp} {ρ : DEnv} {σ : St} {fp : List Addr} (r : Rel b.K b.ks F H ρ σ fp) : ∀ {os : List Opd} {vs : List V} {ds : List D}, Paired (fun o v => OpdOk b F σ v o) os vs → getAll os ρ = some ds → Paired (fun d x => Vw b.K F H x d) ds vs
  | _, _, _, .nil, e => by cases e; exact .nil
  | o :: os, _, ds, .cons h t, e => by
    have e' : ((o.get ρ).bind fun d => (getAll os ρ).bind fun ds => some (d :: ds)) = some ds := e
    cases e1 : o.get ρ with
    | none => rw [e1] at e'; cases e'
    | some d =>
      cases e2 : getAll os ρ with
      | none => rw [e1, e2] at e'; cases e'
      | some es =>
        rw [e1, e2] at e'
        have e3 : d :: es = ds := Option.some.inj e'
        subst e3
        exact .cons (h.vw r e1) (getAll_vw r t e2)
theorem snd_opN {r : List V → Hp → VK → Prop} {f : List D → Option D} {t : TA} {a : DEnv → R (List Opd)} (ho : OpN b.K sh r f) (ha : SndOs b t a) : SndE b sh (tCB r t) (mOpN f a) := by
  intro ρ σ F H fp Q r0 hok
  refine ha.go r0 (Ok := OkE b sh F H fp σ Q) hok (fun z => z) (fun _ _ z => z) fun xs ρ1 vs F1 H1 fp1 h1 r1 x1 o1 => ?_
  cases e1 : getAll xs ρ1 with
  | none => rw [e1] at h1; exact (show False from h1).elim
  | some ds =>
    rw [e1] at h1
    cases e2 : f ds with
    | none => rw [Option.bind_some, e2] at h1; exact (show False from h1).elim
    | some z =>
      rw [Option.bind_some, e2] at h1
      exact ho F1 H1 vs ds z Q r1.sub (getAll_vw r1 o1 e1) e2 ((h1.ext x1).done r1)
end
end VL
/-! V3: expressions. -/
namespace VL
open PySem PySem.Spec L2

abbrev bd (X : Cx) (ks : List Sh) (W : WX) : Bd := ⟨X.K, X.mg, ks, W⟩
structure EV (X : Cx) (ks : List Sh) (W : WX) (e : Expr) (sh : Sh) (t : TE) (m : ME) : Prop where
  pe : PE X e t
  sd : SndE (bd X ks W) sh t m
structure EO (X : Cx) (ks : List Sh) (W : WX) (e : Expr) (t : TE) (m : MO) : Prop where
  pe : PE X e t
  sd : SndO (bd X ks W) t m
structure ET (X : Cx) (ks : List Sh) (W : WX) (e : Expr) (t : TT) (m : MT) : Prop where
  pe : PT X e t
  sd : SndT (bd X ks W) t m
structure EW (X : Cx) (ks : List Sh) (W : WX) (e : Expr) (t : TT) (m : MT) : Prop where
  pe : PW X e t
  sd : SndT (bd X ks W) t m
structure EA (X : Cx) (ks : List Sh) (W : WX) (es : List Expr) (t : TA) (m : MA) : Prop where
  pe : PA X es t
  sd : SndA (bd X ks W) t m
structure EOs (X : Cx) (ks : List Sh) (W : WX) (es : List Expr) (t : TA) (m : DEnv → R (List Opd)) : Prop where
  pe : PA X es t
  sd : SndOs (bd X ks W) t m

section
variable {X : Cx} {ks : List Sh} {W : WX} {e a c : Expr} {es : List Expr} {t ta tc : TE} {m : ME} {pos : Pos} {sh : Sh}

/-! ### names, constants -/
def mVar (i : Nat) : ME := fun ρ => R.of ((ρ[i]?).bind id) ρ
def mC (d : D) : ME := fun ρ => .ok d ρ
theorem getE {ρ : DEnv} {i : Nat} {d : D} (h : (ρ[i]?).bind id = some d) : ρ[i]? = some (some d) := by
  cases z : ρ[i]? with
  | none => rw [z] at h; cases h
  | some y => rw [z] at h; have q' : y = some d := h; rw [q']
theorem snd_var {b : Bd} {i : Nat} (hk : b.ks[i]? = some .leaf) : SndE b .leaf (tVar i) (mVar i) := by
  intro ρ σ F H fp Q r h
  unfold mVar at h
  cases e : (ρ[i]?).bind id with
  | none => rw [e] at h; exact (show False from h).elim
  | some d =>
    rw [e] at h
    obtain ⟨v, f, g, s1, o1, _, _⟩ := r.sl.split hk (getE e)
    obtain ⟨q, _⟩ := o1.leafE
    exact ⟨v, s1, h v F H fp [] r (by rw [List.append_nil]; exact r.nd) (by rw [List.append_nil]; exact .refl) (.leaf q)⟩
theorem ev_var (i : Nat) {x : Str} (hk : ks[i]? = some .leaf := by rfl) (hN : X.N[i]? = some x := by rfl) (hv : Vis X.env.scope x := by first | exact Or.inl rfl | exact Or.inr (Or.inl rfl) | exact Or.inr (Or.inr rfl)) (hd : (x == ("__debug__" : Str)) = false := by decide)
    (hcd : (x == ("__classdict__" : Str)) = false := by decide) : EV X ks W (.Name x pos) .leaf (tVar i) (mVar i) := ⟨pe_var hN hv hd hcd, snd_var hk⟩
/-- an owned slot as an operand -/
theorem eo_own (i : Nat) {x : Str} (hk : ks[i]? = some (.lst .leaf) ∨ ks[i]? = some (.dic .leaf) := by first | exact Or.inl rfl | exact Or.inr rfl) (hN : X.N[i]? = some x := by rfl) (hv : Vis X.env.scope x := by first | exact Or.inl rfl | exact Or.inr (Or.inl rfl) | exact Or.inr (Or.inr rfl)) (hd : (x == ("__debug__" : Str)) = false := by decide)
    (hcd : (x == ("__classdict__" : Str)) = false := by decide) : EO X ks W (.Name x pos) (fun σ H Q => ∃ v, σ[i]? = some (some v) ∧ Q v H) (fun ρ => (R.of ((ρ[i]?).bind id) ρ).bind fun _ ρ1 => .ok (.s i) ρ1) := by
  refine ⟨pe_var hN hv hd hcd, fun ρ σ F H fp Q r h => ?_⟩
  cases e : (ρ[i]?).bind id with
  | none => rw [e] at h; exact (show False from h).elim
  | some d =>
    rw [e] at h
    rcases hk with hk | hk
    · obtain ⟨v, f, g, s1, o1, _, _⟩ := r.sl.split hk (getE e)
      exact ⟨v, s1, h v F H fp r .refl ⟨s1, .inl hk⟩⟩
    · obtain ⟨v, f, g, s1, o1, _, _⟩ := r.sl.split hk (getE e)
      exact ⟨v, s1, h v F H fp r .refl ⟨s1, .inr hk⟩⟩
theorem eo_of (h : EV X ks W e .leaf t m) : EO X ks W e t (fun ρ => (m ρ).bind fun d ρ1 => .ok (.v d) ρ1) := by
  refine ⟨h.pe, fun ρ σ F H fp Q r hok => ?_⟩
  refine h.sd.go r (Ok := OkO (bd X ks W) F H fp σ Q) hok (fun z => z) (fun _ _ z => z) fun d ρ1 v F1 H1 fp1 h1 r1 x1 p1 => ?_
  exact h1 v F1 H1 fp1 r1 x1 p1
theorem snd_c {b : Bd} {v : V} {d : D} (h : ∀ F, Rep b.K F v d) : SndE b .leaf (tC v) (mC d) := by
  intro ρ σ F H fp Q r hok
  exact hok v F H fp [] r (by rw [List.append_nil]; exact r.nd) (by rw [List.append_nil]; exact .refl) (.leaf (h F))
theorem ev_int {i : Int} {j} : EV X ks W (.Constant (.int i) j pos) .leaf (tC (.int i)) (mC (.int i)) := ⟨pe_int, snd_c fun _ => .int _⟩
theorem ev_bl {i : Bool} {j} : EV X ks W (.Constant (.bool i) j pos) .leaf (tC (.bl i)) (mC (.bl i)) := ⟨pe_bl, snd_c fun _ => .bl _⟩
theorem ev_non {j} : EV X ks W (.Constant .none j pos) .leaf (tC .non) (mC .non) := ⟨pe_non, snd_c fun _ => .non⟩
theorem ev_str {x : Str} {j} (h : asc x = true := by decide +kernel) : EV X ks W (.Constant (.str x) j pos) .leaf (tC (.str x)) (mC (.str x)) := ⟨pe_str, snd_c fun _ => .str _ h⟩
/-- a module's constant -/
theorem ev_globI {x : Str} {i : Int} {tk : Tok} (hm : X.mg x = some (.int i tk)) (hg : Gl X x := by rfl) (hd : (x == ("__debug__" : Str)) = false := by decide) : EV X ks W (.Name x pos) .leaf (tC (.int i)) (mC (.int i)) := ⟨pe_glob hg hm ⟨_, rfl⟩ hd, snd_c fun _ => .int _⟩
theorem ev_globS {x y : Str} {tk : Tok} (hm : X.mg x = some (.str y tk)) (hy : asc y = true := by decide +kernel) (hg : Gl X x := by rfl) (hd : (x == ("__debug__" : Str)) = false := by decide) : EV X ks W (.Name x pos) .leaf (tC (.str y)) (mC (.str y)) := ⟨pe_glob hg hm ⟨_, rfl⟩ hd, snd_c fun _ => .str _ hy⟩
/-- cells locked -/
def Lk (l : List Addr) (H H2 : Hp) : Prop := (∀ a, a ∉ l → H2 a = H a) ∧ ∀ a ∈ l, ∃ o u, H a = some u ∧ H2 a = some (.frz o u)
theorem Inv.lockAll {pins : List (Addr × Obj)} {σ : St} {H : Hp} {s : Shared} (I : Inv X pins σ H s) : ∀ l : List Addr, l.Nodup → (∀ a ∈ l, ∃ u, H a = some u ∧ Mut (some u)) → ∃ H2, Lk l H H2 ∧ Inv X pins σ H2 s
  | [], _, _ => ⟨H, ⟨fun _ _ => rfl, fun _ m => by simp at m⟩, I⟩
  | a :: l, nd, h => by
    have nd' := List.nodup_cons.mp nd
    obtain ⟨H2, ⟨k1, k2⟩, I2⟩ := Inv.lockAll I l nd'.2 fun b m => h b (List.mem_cons_of_mem _ m)
    obtain ⟨u, e, mu⟩ := h a List.mem_cons_self
    have e2 : H2 a = some u := (k1 a nd'.1).trans e
    obtain ⟨od, I3⟩ := I2.lock e2 mu
    refine ⟨_, ⟨fun b nb => ?_, fun b m => ?_⟩, I3⟩
    · rw [List.mem_cons, not_or] at nb
      rw [upd_ne nb.1]; exact k1 b nb.2
    · by_cases q : b = a
      · subst q; exact ⟨od, u, e, upd_same⟩
      · rw [upd_ne q]
        rcases List.mem_cons.mp m with m | m
        · exact (q m).elim
        · exact k2 b m
def tFrz (t : TE) : TE := fun σ H Q => t σ H fun v H1 => ∃ l : List Addr, l.Nodup ∧ (∀ a ∈ l, ∃ u, H1 a = some u ∧ Mut (some u)) ∧ ∀ H2, Lk l H1 H2 → Q v H2
theorem pe_frz (h : PE X e t) : PE X e (tFrz t) := by
  refine ⟨fun pins s σ H Q I hw => ?_⟩
  refine thn (h.run pins s σ _ _ I hw) fun v s1 ⟨x, H1, I2, r, l, nd, mu, q⟩ => ?_
  obtain ⟨H2, lk, I3⟩ := Inv.lockAll I2 l nd mu
  exact ⟨x, H2, I3, r, q H2 lk⟩
def isDc : Option HO → Bool
  | some (.dK _) => true
  | some (.dT _) => true
  | _ => false
/-- a fresh owned thing, frozen -/
theorem ev_frz (h : EV X ks W e sh t m) : EV X ks W e .leaf (tFrz t) m := by
  refine ⟨pe_frz h.pe, fun ρ σ F H fp Q r hok => h.sd ρ σ F H fp _ r ?_⟩
  cases em : m ρ with
  | no => rw [em] at hok; exact hok
  | ex x ρ1 => rw [em] at hok; exact hok
  | ok d ρ1 =>
    rw [em] at hok
    intro v F' H' fp' fv r' nd x o
    have nd' := List.nodup_append.mp nd
    have fN : ∀ y ∈ fv, F' y = none := fun y m => (o.own y m).1
    refine ⟨fv.filter fun a => isDc (H' a), nd'.2.1.filter _, fun a ma => ?_, fun H2 lk => ?_⟩
    · have q := (List.mem_filter.mp ma).2
      cases eu : H' a with
      | none => rw [eu] at q; cases q
      | some u => rw [eu] at q; cases u <;> first | (cases q; done) | exact ⟨_, rfl, trivial⟩
    · have out : ∀ a, a ∉ fv → H2 a = H' a := fun a n => lk.1 a fun z => n (List.mem_filter.mp z).1
      have fz : ∀ a ∈ fv, Frzd (H' a) (H2 a) := fun a ma => by
        by_cases q : isDc (H' a) = true
        · obtain ⟨od, u, e1, e2⟩ := lk.2 a (List.mem_filter.mpr ⟨ma, q⟩)
          rw [e1] at q ⊢
          rw [e2]
          refine ⟨fun xs z => ?_, fun xs z => ?_, fun xs z => ?_⟩
          · cases z; cases q
          · cases z; exact ⟨_, rfl⟩
          · cases z; exact ⟨_, rfl⟩
        · rw [lk.1 a fun z => q (List.mem_filter.mp z).2]
          refine ⟨fun xs z => z, fun xs z => ?_, fun xs z => ?_⟩
          · rw [z] at q; exact absurd rfl q
          · rw [z] at q; exact absurd rfl q
      have sm : Same F' (frz F' H2 fv) := frz_same fN
      have sH : Same F' H2 := fun a u z => by
        rw [out a fun m => by rw [fN a m] at z; cases z]; exact r'.sub a u z
      have tp : ∀ a xs, H2 a = some (.tup xs) → frz F' H2 fv a = some (.tup xs) := fun a xs z => by
        by_cases ma : a ∈ fv
        · rw [frz_in ma]; exact z
        · rw [frz_out ma]; rw [out a ma] at z; exact r'.sub.tp a xs z
      refine hok v (frz F' H2 fv) H2 fp' [] ⟨⟨frz_sub sH, tp⟩, r'.nd, r'.sl.frame sm fun y m => ⟨?_, out y fun z => nd'.2.2 y m y z rfl⟩⟩ (by rw [List.append_nil]; exact r'.nd) ?_ (.leaf (o.frozen sm fun y m => by rw [frz_in m]; exact fz y m))
      · rw [frz_out fun z => nd'.2.2 y m y z rfl]
        exact (r'.sl.own y m).1
      · rw [List.append_nil]
        refine ⟨fun y ob e n => ?_, fun y m => x.fr y (List.mem_append_left _ m)⟩
        obtain ⟨k1, k2⟩ := x.keep y ob e n
        have ny : y ∉ fv := fun z => by
          rcases x.fr y (List.mem_append_right _ z) with q | q
          · exact n q
          · rw [q] at e; cases e
        refine ⟨(out y ny).trans k1, ?_⟩
        rw [frz_out ny]
        exact k2

/-- .. a list: nothing to lock -/
theorem ev_frzL (h : EV X ks W e (.lst .leaf) t m) : EV X ks W e .leaf t m := by
  refine ⟨h.pe, fun ρ σ F H fp Q r hok => h.sd ρ σ F H fp Q r ?_⟩
  cases em : m ρ with
  | no => rw [em] at hok; exact hok
  | ex x ρ1 => rw [em] at hok; exact hok
  | ok d ρ1 =>
    rw [em] at hok
    intro v F' H' fp' fv r' nd x o
    have nd' := List.nodup_append.mp nd
    have fN : ∀ y ∈ fv, F' y = none := fun y m => (o.own y m).1
    have sm : Same F' (frz F' H' fv) := frz_same fN
    have tp : ∀ a xs, H' a = some (.tup xs) → frz F' H' fv a = some (.tup xs) := fun a xs z => by
      by_cases ma : a ∈ fv
      · rw [frz_in ma]; exact z
      · rw [frz_out ma]; exact r'.sub.tp a xs z
    have fz : ∀ a ∈ fv, Frzd (H' a) (frz F' H' fv a) := fun a ma => by
      rw [frz_in ma]
      cases o with
      | lst q1 q2 q3 =>
        obtain ⟨_, rfl⟩ := q3.leafE
        cases List.mem_singleton.mp ma
        rw [q2]
        exact ⟨(fun xs z => z), (fun _ z => nomatch z), (fun _ z => nomatch z)⟩
    refine hok v (frz F' H' fv) H' fp' [] ⟨⟨frz_sub r'.sub.sm, tp⟩, r'.nd, r'.sl.frame sm fun y m => ⟨?_, rfl⟩⟩ (by rw [List.append_nil]; exact r'.nd) ?_ (.leaf (o.frozen sm fz))
    · rw [frz_out fun z => nd'.2.2 y m y z rfl]
      exact (r'.sl.own y m).1
    · rw [List.append_nil]
      refine ⟨fun y ob e n => ?_, fun y m => x.fr y (List.mem_append_left _ m)⟩
      obtain ⟨k1, k2⟩ := x.keep y ob e n
      refine ⟨k1, ?_⟩
      rw [frz_out fun z => ?_]
      · exact k2
      · rcases x.fr y (List.mem_append_right _ z) with q | q
        · exact n q
        · rw [q] at e; cases e

/-! ### argument lists -/
def mNil : MA := fun ρ => .ok [] ρ
def mCons (a : ME) (r : MA) : MA := fun ρ => (a ρ).bind fun d ρ1 => (r ρ1).bind fun ds ρ2 => .ok (d :: ds) ρ2
theorem ea_nil : EA X ks W [] tNil mNil := ⟨pa_nil, fun ρ σ F H fp Q r hok => hok [] F H fp r .refl .nil⟩
theorem ea_cons {tr : TA} {mr : MA} (ha : EV X ks W e .leaf t m) (hr : EA X ks W es tr mr) (hs : starEach (e :: es) X.env = (false, eval e X.env) :: starEach es X.env := by rfl) : EA X ks W (e :: es) (tCons t tr) (mCons m mr) := by
  refine ⟨pa_cons ha.pe hr.pe hs, fun ρ σ F H fp Q r hok => ?_⟩
  refine ha.sd.go r (Ok := OkA (bd X ks W) F H fp σ Q) hok (fun z => z) (fun _ _ z => z) fun d ρ1 v F1 H1 fp1 h1 r1 x1 p1 => ?_
  refine hr.sd.go r1 (Ok := OkA (bd X ks W) F1 H1 fp1 σ Q) (h1.ext x1) (fun z => z) (fun _ _ z => z) fun ds ρ2 vs F2 H2 fp2 h2 r2 x2 p2 => ?_
  exact h2 (v :: vs) F2 H2 fp2 r2 x2 (.cons (p1.mono (r1.same x2)) p2)
def mONil : DEnv → R (List Opd) := fun ρ => .ok [] ρ
def mOCons (a : MO) (r : DEnv → R (List Opd)) : DEnv → R (List Opd) := fun ρ => (a ρ).bind fun d ρ1 => (r ρ1).bind fun ds ρ2 => .ok (d :: ds) ρ2
theorem eos_nil : EOs X ks W [] tNil mONil := ⟨pa_nil, fun ρ σ F H fp Q r hok => hok [] F H fp r .refl .nil⟩
theorem eos_cons {tr : TA} {mo : MO} {mr : DEnv → R (List Opd)} (ha : EO X ks W e t mo) (hr : EOs X ks W es tr mr) (hs : starEach (e :: es) X.env = (false, eval e X.env) :: starEach es X.env := by rfl) : EOs X ks W (e :: es) (tCons t tr) (mOCons mo mr) := by
  refine ⟨pa_cons ha.pe hr.pe hs, fun ρ σ F H fp Q r hok => ?_⟩
  refine ha.sd.go r (Ok := OkOs (bd X ks W) F H fp σ Q) hok (fun z => z) (fun _ _ z => z) fun d ρ1 v F1 H1 fp1 h1 r1 x1 p1 => ?_
  refine hr.sd.go r1 (Ok := OkOs (bd X ks W) F1 H1 fp1 σ Q) (h1.ext x1) (fun z => z) (fun _ _ z => z) fun ds ρ2 vs F2 H2 fp2 h2 r2 x2 p2 => ?_
  exact h2 (v :: vs) F2 H2 fp2 r2 x2 (.cons (p1.mono (r1.same x2)) p2)

/-! ### displays -/
def mTup (a : MA) : ME := fun ρ => (a ρ).bind fun ds ρ1 => if ds.length ≤ 16777216 then .ok (.tup ds) ρ1 else .no
def mLst (a : MA) : ME := fun ρ => (a ρ).bind fun ds ρ1 => if ds.length ≤ 16777216 then .ok (.lst ds) ρ1 else .no
theorem line_ok {n : Nat} (h : n ≤ 16777216) : n ≤ sizeLine := by rw [sizeLine_eq]; exact h
theorem ev_tup {t : TA} {a : MA} {x1} (h : EA X ks W es t a) : EV X ks W (.Tuple es x1 pos) .leaf (tTupF t) (mTup a) := by
  refine ⟨pe_tupF h.pe, fun ρ σ F H fp Q r hok => ?_⟩
  refine h.sd.go r (Ok := OkE (bd X ks W) .leaf F H fp σ Q) hok (fun z => z) (fun _ _ z => z) fun ds ρ1 vs F1 H1 fp1 h1 r1 x1 p1 => ?_
  by_cases hl : ds.length ≤ 16777216
  · rw [if_pos hl] at h1
    exact ⟨by rw [p1.length]; exact line_ok hl, fun p us np => ((h1.ext x1).done r1).newT r1.sub p1 np⟩
  · rw [if_neg hl] at h1; exact (show False from h1).elim
theorem ev_lst {t : TA} {a : MA} (h : EA X ks W es t a) : EV X ks W (.List es pos) (.lst .leaf) (tLst t) (mLst a) := by
  refine ⟨pe_lst h.pe, fun ρ σ F H fp Q r hok => ?_⟩
  refine h.sd.go r (Ok := OkE (bd X ks W) (.lst .leaf) F H fp σ Q) hok (fun z => z) (fun _ _ z => z) fun ds ρ1 vs F1 H1 fp1 h1 r1 x1 p1 => ?_
  by_cases hl : ds.length ≤ 16777216
  · rw [if_pos hl] at h1
    exact ⟨by rw [p1.length]; exact line_ok hl, fun p np => ((h1.ext x1).done r1).newL r1.sub p1 np⟩
  · rw [if_neg hl] at h1; exact (show False from h1).elim

/-! ### operators, comparisons, built-ins by rules -/
theorem ev_op {op : Operator} {r : R2} {f : D → D → Option D} {mo mp : MO} (ho : OpR X (binaryOp op) r) (hs : Op2 X.K sh r f) (ha : EO X ks W a ta mo) (hc : EO X ks W c tc mp) : EV X ks W (.BinOp a op c pos) sh (tOp r ta tc) (mOp2 f mo mp) :=
  ⟨pe_op ho ha.pe hc.pe, snd_op2 (b := bd X ks W) hs ha.sd hc.sd⟩
theorem ev_un {op : UnaryOp} {r : V → Hp → VK → Prop} {f : D → Option D} {mo : MO} (ho : UnR X (unaryOp op) r) (hs : Op1 X.K sh r f) (ha : EO X ks W a ta mo) : EV X ks W (.UnaryOp op a pos) sh (tUn r ta) (mOp1 f mo) :=
  ⟨pe_un ho ha.pe, snd_op1 (b := bd X ks W) hs ha.sd⟩
theorem ev_cmp {op : CmpOp} {r : R2} {f : D → D → Option D} {mo mp : MO} (ho : OpR X (compareOp op) r) (hs : Op2 X.K sh r f) (ha : EO X ks W a ta mo) (hc : EO X ks W c tc mp) (hm : behindInMarks op c = false) : EV X ks W (.Compare a [op] [c] pos) sh (tOp r ta tc) (mOp2 f mo mp) :=
  ⟨pe_cmpR ho ha.pe hc.pe hm, snd_op2 (b := bd X ks W) hs ha.sd hc.sd⟩
theorem ev_ix {r : R2} {f : D → D → Option D} {mo mp : MO} (ho : IxR X r) (hs : Op2 X.K sh r f) (ha : EO X ks W a ta mo) (hc : EO X ks W c tc mp) (hx : PlainIx c := by exact fun _ _ => rfl) : EV X ks W (.Subscript a c pos) sh (tOp r ta tc) (mOp2 f mo mp) :=
  ⟨pe_ix ho ha.pe hc.pe hx, snd_op2 (b := bd X ks W) hs ha.sd hc.sd⟩
theorem ev_callB {x : Str} {p : Pos} {id : String} {r : List V → Hp → VK → Prop} {f : List D → Option D} {t : TA} {mo : DEnv → R (List Opd)} (ho : CallR X (.builtin id) r) (hs : OpN X.K sh r f) (ha : EOs X ks W (e :: es) t mo) (hm : X.mg x = none) (hv : bootBuiltins x = some (.builtin id))
    (hg : Gl X x := by rfl) (hn : x ≠ "__name__" := by decide) (hdb : (x == ("__debug__" : Str)) = false := by decide)
    (he : starEach (e :: es) X.env = (false, eval e X.env) :: starEach es X.env := by rfl) (hpl : (backTo pos (starEach es X.env)).any (·.1) = false := by rfl) : EV X ks W (.Call (.Name x p) (e :: es) [] pos) sh (tCB r t) (mOpN f mo) :=
  ⟨pe_callB ho hg hm hv ha.pe hn hdb he hpl, snd_opN (b := bd X ks W) hs ha.sd⟩
theorem ev_callT {x : Str} {p : Pos} {id : String} {r : List V → Hp → VK → Prop} {f : List D → Option D} {t : TA} {mo : DEnv → R (List Opd)} (ho : CallR X (.type id) r) (hs : OpN X.K sh r f) (ha : EOs X ks W (e :: es) t mo) (hm : X.mg x = none) (hv : bootBuiltins x = some (.type id))
    (hg : Gl X x := by rfl) (hn : x ≠ "__name__" := by decide) (hdb : (x == ("__debug__" : Str)) = false := by decide)
    (he : starEach (e :: es) X.env = (false, eval e X.env) :: starEach es X.env := by rfl) (hpl : (backTo pos (starEach es X.env)).any (·.1) = false := by rfl) : EV X ks W (.Call (.Name x p) (e :: es) [] pos) sh (tCB r t) (mOpN f mo) :=
  ⟨pe_callTy ho hg hm hv ha.pe hn hdb he hpl, snd_opN (b := bd X ks W) hs ha.sd⟩
/-! ### tests -/
def asB : D → DEnv → R Bool
  | .bl c, ρ => .ok c ρ
  | _, _ => .no
def mTest (m : ME) : MT := fun ρ => (m ρ).bind asB
theorem asBE {α : Prop} {d : D} {ρ : DEnv} {Ok : R Bool → Prop} (hn : ¬ Ok .no) (h : Ok (asB d ρ)) (k : ∀ c, d = .bl c → Ok (.ok c ρ) → α) : α := by
  cases d with
  | bl c => exact k c rfl h
  | _ => exact (hn h).elim
theorem snd_test {b : Bd} (h : SndE b .leaf t m) : SndT b (tB t) (mTest m) := by
  intro ρ σ F H fp Q r hok
  refine h.go r (Ok := OkT b F H fp σ Q) hok (fun z => z) (fun _ _ z => z) fun d ρ1 v F1 H1 fp1 h1 r1 x1 p1 => ?_
  refine asBE (Ok := OkT b F H fp σ Q) (fun z => z) h1 fun k e h2 => ?_
  subst e
  cases p1
  exact ⟨k, rfl, h2 F1 H1 fp1 r1 x1⟩
theorem et_val (h : EV X ks W e .leaf t m) (he : ∀ whole, isTrue e X.env whole = (do let v ← whole; standAt e.pos; holding [v] (truthy v)) := by intro _; rfl) : ET X ks W e (tB t) (mTest m) := ⟨pt_val h.pe he, snd_test h.sd⟩
theorem et_cmp {op : CmpOp} {r : R2} {f : D → D → Option D} {mo mp : MO} (ho : OpR X (compareOp op) r) (hs : Op2 X.K .leaf r f) (ha : EO X ks W a ta mo) (hc : EO X ks W c tc mp) (hm : behindInMarks op c = false) : ET X ks W (.Compare a [op] [c] pos) (tTest (tOp r ta tc)) (mTest (mOp2 f mo mp)) :=
  ⟨pt_cmpR ho ha.pe hc.pe hm, snd_test (snd_op2 (b := bd X ks W) hs ha.sd hc.sd)⟩
def mNot (m : MT) : MT := fun ρ => (m ρ).bind fun c ρ1 => .ok (!c) ρ1
def mAnd (m n : MT) : MT := fun ρ => (m ρ).bind fun c ρ1 => if c = true then n ρ1 else .ok false ρ1
def mOr (m n : MT) : MT := fun ρ => (m ρ).bind fun c ρ1 => if c = true then .ok true ρ1 else n ρ1
theorem et_not {tA : TT} {mt : MT} (h : ET X ks W a tA mt) : ET X ks W (.UnaryOp .Not a pos) (tNot tA) (mNot mt) := by
  refine ⟨pt_not h.pe, fun ρ σ F H fp Q r hok => ?_⟩
  exact h.sd.go r (Ok := OkT (bd X ks W) F H fp σ Q) hok (fun z => z) (fun _ _ z => z) fun k ρ1 F1 H1 fp1 h1 r1 x1 => h1 F1 H1 fp1 r1 x1
theorem et_w {tA : TT} {mt : MT} (h : EW X ks W a tA mt) : ET X ks W a tA mt := ⟨h.pe.pt, h.sd⟩
theorem ew_and1 {tA : TT} {mt : MT} (h : ET X ks W a tA mt) : EW X ks W (.BoolOp .And [a] pos) tA mt := ⟨pw_and1 h.pe, h.sd⟩
theorem ew_or1 {tA : TT} {mt : MT} (h : ET X ks W a tA mt) : EW X ks W (.BoolOp .Or [a] pos) tA mt := ⟨pw_or1 h.pe, h.sd⟩
theorem ew_and {tA tB' : TT} {mt mu : MT} (h : ET X ks W a tA mt) (h2 : EW X ks W (.BoolOp .And (c :: es) pos) tB' mu) : EW X ks W (.BoolOp .And (a :: c :: es) pos) (tAnd tA tB') (mAnd mt mu) := by
  refine ⟨pw_and h.pe h2.pe, fun ρ σ F H fp Q r hok => ?_⟩
  refine h.sd.go r (Ok := OkT (bd X ks W) F H fp σ Q) hok (fun z => z) (fun _ _ z => z) fun k ρ1 F1 H1 fp1 h1 r1 x1 => ?_
  cases k with
  | true => rw [if_pos rfl] at h1 ⊢; exact h2.sd ρ1 σ F1 H1 fp1 Q r1 (h1.ext x1)
  | false => rw [if_neg Bool.false_ne_true] at h1 ⊢; exact h1 F1 H1 fp1 r1 x1
theorem ew_or {tA tB' : TT} {mt mu : MT} (h : ET X ks W a tA mt) (h2 : EW X ks W (.BoolOp .Or (c :: es) pos) tB' mu) : EW X ks W (.BoolOp .Or (a :: c :: es) pos) (tOr tA tB') (mOr mt mu) := by
  refine ⟨pw_or h.pe h2.pe, fun ρ σ F H fp Q r hok => ?_⟩
  refine h.sd.go r (Ok := OkT (bd X ks W) F H fp σ Q) hok (fun z => z) (fun _ _ z => z) fun k ρ1 F1 H1 fp1 h1 r1 x1 => ?_
  cases k with
  | true => rw [if_pos rfl] at h1 ⊢; exact h1 F1 H1 fp1 r1 x1
  | false => rw [if_neg Bool.false_ne_true] at h1 ⊢; exact h2.sd ρ1 σ F1 H1 fp1 Q r1 (h1.ext x1)
/-- .. as values -/
def mAndV (m n : ME) : ME := fun ρ => ((m ρ).bind asB).bind fun c ρ1 => if c = true then n ρ1 else .ok (.bl false) ρ1
def mOrV (m n : ME) : ME := fun ρ => ((m ρ).bind asB).bind fun c ρ1 => if c = true then .ok (.bl true) ρ1 else n ρ1
def mNotV (m : ME) : ME := fun ρ => ((m ρ).bind asB).bind fun c ρ1 => .ok (.bl (!c)) ρ1
theorem bind_assoc {α β γ : Type} (r : R α) (f : α → DEnv → R β) (g : β → DEnv → R γ) : (r.bind f).bind g = r.bind fun a ρ => (f a ρ).bind g := by
  cases r <;> rfl
theorem asBE2 {α : Prop} {β : Type} {d : D} {ρ : DEnv} {Ok : R β → Prop} {g : Bool → DEnv → R β} (hn : ¬ Ok .no) (h : Ok ((asB d ρ).bind g)) (k : ∀ c, d = .bl c → Ok (g c ρ) → α) : α := by
  cases d with
  | bl c => exact k c rfl h
  | _ => exact (hn h).elim
theorem ev_one {op} (h : EV X ks W a sh t m) : EV X ks W (.BoolOp op [a] pos) sh t m := ⟨pe_one h.pe, h.sd⟩
theorem ev_and {mc : ME} (h : EV X ks W a .leaf t m) (h2 : EV X ks W (.BoolOp .And (c :: es) pos) .leaf tc mc) : EV X ks W (.BoolOp .And (a :: c :: es) pos) .leaf (tAndV t tc) (mAndV m mc) := by
  refine ⟨pe_and h.pe h2.pe, fun ρ σ F H fp Q r hok => ?_⟩
  unfold mAndV at hok
  rw [bind_assoc] at hok
  refine h.sd.go r (Ok := OkE (bd X ks W) .leaf F H fp σ Q) hok (fun z => z) (fun _ _ z => z) fun d ρ1 v F1 H1 fp1 h1 r1 x1 p1 => ?_
  refine asBE2 (Ok := OkE (bd X ks W) .leaf F H fp σ Q) (fun z => z) h1 fun k e h3 => ?_
  subst e
  cases p1
  refine ⟨k, rfl, ?_⟩
  cases k with
  | true => rw [if_pos rfl] at h3 ⊢; exact h2.sd ρ1 σ F1 H1 fp1 Q r1 (h3.ext x1)
  | false => rw [if_neg Bool.false_ne_true] at h3 ⊢; exact ((h3.ext x1).done r1).here r1.sub (.bl _)
def mIf (c : MT) (a b : ME) : ME := fun ρ => (c ρ).bind fun k ρ1 => if k = true then a ρ1 else b ρ1
theorem ev_if {x : Expr} {tA : TT} {mt : MT} {mc : ME} (hx : ET X ks W x tA mt) (h : EV X ks W a sh t m) (h2 : EV X ks W c sh tc mc) : EV X ks W (.IfExp x a c pos) sh (tIf tA t tc) (mIf mt m mc) := by
  refine ⟨pe_ifExp hx.pe h.pe h2.pe, fun ρ σ F H fp Q r hok => ?_⟩
  refine hx.sd.go r (Ok := OkE (bd X ks W) sh F H fp σ Q) hok (fun z => z) (fun _ _ z => z) fun k ρ1 F1 H1 fp1 h1 r1 x1 => ?_
  cases k with
  | true => rw [if_pos rfl] at h1 ⊢; exact h.sd ρ1 σ F1 H1 fp1 Q r1 (h1.ext x1)
  | false => rw [if_neg Bool.false_ne_true] at h1 ⊢; exact h2.sd ρ1 σ F1 H1 fp1 Q r1 (h1.ext x1)
end
end VL
/-! V4: operations on data: + - * // % ** << >> &, == != < in, items, slices, len. -/
namespace VL
open PySem PySem.Spec L2

/-! ### texts below 128 -/
theorem ascE {x : Str} (h : asc x = true) : (∀ c ∈ x.cps.toList, c < 128) ∧ x.length ≤ 16777216 := by
  unfold asc at h
  rw [Bool.and_eq_true, decide_eq_true_eq, Array.all_eq_true'] at h
  exact ⟨fun c m => of_decide_eq_true (h.1 c (Array.mem_toList_iff.mp m)), h.2⟩
theorem asc_mk {x : Str} (h : ∀ c ∈ x.cps.toList, c < 128) (hl : x.length ≤ 16777216) : asc x = true := by
  unfold asc
  rw [Bool.and_eq_true, decide_eq_true_eq, Array.all_eq_true']
  exact ⟨fun c m => decide_eq_true (h c (Array.mem_toList_iff.mpr m)), hl⟩
theorem asc_line {x : Str} (h : asc x = true) : x.length ≤ sizeLine := line_ok (ascE h).2
theorem asc_cat {x y : Str} (h : asc x = true) (h' : asc y = true) (hl : x.length + y.length ≤ 16777216) : asc (x ++ y) = true := by
  have e : (x ++ y).cps.toList = x.cps.toList ++ y.cps.toList := TL.tl_append x y
  refine asc_mk (fun c m => ?_) ?_
  · rw [e] at m
    rcases List.mem_append.mp m with m | m
    · exact (ascE h).1 c m
    · exact (ascE h').1 c m
  · have : (x ++ y).length = x.length + y.length := by
      show (x ++ y).cps.size = x.cps.size + y.cps.size
      rw [← Array.length_toList, e, List.length_append, Array.length_toList, Array.length_toList]
    omega
theorem asc_sub {x : Str} {l : List Nat} (h : asc x = true) (hs : ∀ c ∈ l, c ∈ x.cps.toList) (hl : l.length ≤ x.length) : asc ⟨l.toArray⟩ = true := by
  refine asc_mk (fun c m => (ascE h).1 c (hs c (by simpa using m))) ?_
  show l.toArray.size ≤ _
  rw [List.size_toArray]
  exact Nat.le_trans hl (ascE h).2
theorem asc_one {x : Str} {c : Nat} (h : asc x = true) (m : c ∈ x.cps.toList) : asc ⟨#[c]⟩ = true := by
  refine asc_mk (fun d md => ?_) (by show 1 ≤ 16777216; decide)
  have : d = c := by simpa using md
  subst this
  exact (ascE h).1 d m

/-! ### data as the library reads it -/
def keyD : Key → D
  | .inl n => .int n
  | .inr z => .str z
def keyP : Key → PyData
  | .inl i => .int i
  | .inr x => .str x
mutual
def D.toPy : D → PyData
  | .non => .none | .bl b => .bool b | .int i => .int i | .str x => .str x
  | .tup xs => .tuple (toPyL xs) | .lst xs => .list (toPyL xs)
  | .dK _ => .dict [] | .dT _ => .dict [] | .ob _ _ => .dict [] | .fin _ _ => .dict [] | .exv _ _ => .dict []
  | .scr ns => .list (ns.map .int) | .rp p => .str p.shown | .ty _ => .dict []
  | .key ks => .tuple (ks.map keyP)
def toPyL : List D → List PyData
  | [] => []
  | d :: ds => d.toPy :: toPyL ds
end
mutual
def D.py : D → Bool
  | .non => true | .bl _ => true | .int _ => true | .str _ => true
  | .tup xs => pyL xs | .lst xs => pyL xs
  | .dK _ => false | .dT _ => false | .ob _ _ => false | .fin _ _ => false | .exv _ _ => false | .scr _ => true | .rp _ => false | .ty _ => false
  | .key _ => true
def pyL : List D → Bool
  | [] => true
  | d :: ds => d.py && pyL ds
end
theorem py_nod {d : D} (h : d.py = true) : d.nod = true := by
  cases d <;> first | rfl | (rw [D.py] at h; cases h)
theorem dp_ints {K : PySem.W.Frag} {H : Hp} : ∀ ns : List Int, DpAll K H (ns.map V.int) (ns.map PyData.int)
  | [] => .nil
  | n :: ns => .cons (.int n) (dp_ints ns)
theorem lay_ints : ∀ ns : List Int, PyData.canLayAll0 (ns.map PyData.int) = true
  | [] => by simp [PyData.canLayAll0]
  | n :: ns => by simp [PyData.canLayAll0, PyData.canLay0, lay_ints ns]
theorem asc_strOk {x : Str} (h : asc x = true) : PyData.strOk x = true := by
  unfold PyData.strOk
  rw [Array.all_eq_true']
  intro c m
  have := (ascE h).1 c (Array.mem_toList_iff.mpr m)
  exact decide_eq_true (by omega)
theorem dp_keys {K : PySem.W.Frag} {H : Hp} : ∀ ks : List Key, DpAll K H (ks.map kV) (ks.map keyP)
  | [] => .nil
  | .inl i :: ks => .cons (.int i) (dp_keys ks)
  | .inr x :: ks => .cons (.str x) (dp_keys ks)
theorem lay_keys : ∀ ks : List Key, ks.all ascK = true → PyData.canLayAll0 (ks.map keyP) = true
  | [], _ => by simp [PyData.canLayAll0]
  | .inl i :: ks, h => by
    rw [List.all_cons, Bool.and_eq_true] at h
    simp [PyData.canLayAll0, keyP, PyData.canLay0, lay_keys ks h.2]
  | .inr x :: ks, h => by
    rw [List.all_cons, Bool.and_eq_true] at h
    have q : PyData.strOk x = true := asc_strOk h.1
    simp [PyData.canLayAll0, keyP, PyData.canLay0, lay_keys ks h.2, q]
mutual
theorem Rep.dp {K : PySem.W.Frag} {H : Hp} : ∀ {v : V} {d : D}, Rep K H v d → d.py = true → Dp K H v d.toPy ∧ d.toPy.canLay0 = true
  | _, _, .non, _ => ⟨by rw [D.toPy]; exact .non, by rw [D.toPy, PyData.canLay0]⟩
  | _, _, .bl b, _ => ⟨by rw [D.toPy]; exact .bl b, by rw [D.toPy, PyData.canLay0]⟩
  | _, _, .int i, _ => ⟨by rw [D.toPy]; exact .int i, by rw [D.toPy, PyData.canLay0]⟩
  | _, _, .str x h, _ => ⟨by rw [D.toPy]; exact .str x, by rw [D.toPy, PyData.canLay0]; exact asc_strOk h⟩
  | _, _, .tup e r, h => by
    rw [D.py] at h
    obtain ⟨a, b⟩ := Reps.dp r h
    rw [D.toPy, PyData.canLay0]
    exact ⟨.tup (e.sq K) a, b⟩
  | _, _, .lst e r, h => by
    rw [D.py] at h
    obtain ⟨a, b⟩ := Reps.dp r h
    rw [D.toPy, PyData.canLay0]
    exact ⟨.lst (.inl (.inl e)) a, b⟩
  | _, _, .dK _ _ _, h => by rw [D.py] at h; cases h
  | _, _, .dT _ _ _, h => by rw [D.py] at h; cases h
  | _, _, .scr e, _ => by
    rw [D.toPy, PyData.canLay0]
    exact ⟨.lst e (dp_ints _), lay_ints _⟩
  | _, _, .rp _, h => by rw [D.py] at h; cases h
  | _, _, .ty _, h => by rw [D.py] at h; cases h
  | _, _, .key e h, _ => by
    rw [D.toPy, PyData.canLay0]
    exact ⟨.tup (.inl (.inl e)) (dp_keys _), lay_keys _ h⟩
theorem Reps.dp {K : PySem.W.Frag} {H : Hp} : ∀ {vs : List V} {ds : List D}, Reps K H vs ds → pyL ds = true → DpAll K H vs (toPyL ds) ∧ PyData.canLayAll0 (toPyL ds) = true
  | _, _, .nil, _ => ⟨by rw [toPyL]; exact .nil, by rw [toPyL, PyData.canLayAll0]⟩
  | _, _, .cons h r, q => by
    rw [pyL, Bool.and_eq_true] at q
    obtain ⟨a, b⟩ := Rep.dp h q.1
    obtain ⟨c, d⟩ := Reps.dp r q.2
    rw [toPyL, PyData.canLayAll0, Bool.and_eq_true]
    exact ⟨.cons a c, b, d⟩
end
def eqv (d e : D) : Bool := PyData.eqv d.toPy e.toPy
def eqOk (d e : D) : Bool := d.py && e.py && decide (min d.toPy.depth e.toPy.depth ≤ 60)

section
variable {X : Cx}
def rEqA (K : PySem.W.Frag) (neg : Bool) : R2 := fun x y H Q => ∃ d e, Dp K H x d ∧ Dp K H y e ∧ d.canLay0 = true ∧ e.canLay0 = true ∧ min d.depth e.depth ≤ 60 ∧ Q (.bl (if neg then !PyData.eqv d e else PyData.eqv d e)) H
theorem op_eqA (hu : X.A.units + 65 < cLine) : OpR X (compareOp .Eq) (rEqA X.K false) := by
  intro pins s σ H x y v u Q I rx ry ⟨d, e, hd, he, ld, le, hm, q⟩
  obtain ⟨as, r1⟩ := Dp.reads I d x v hd rx
  obtain ⟨bs, r2⟩ := Dp.reads I e y u he ry
  exact SeqAt.compareEq_reads r1 r2 ld le (by omega) ⟨.bl _, H, I, rfl, q⟩
theorem op_neA (hu : X.A.units + 65 < cLine) : OpR X (compareOp .NotEq) (rEqA X.K true) := by
  intro pins s σ H x y v u Q I rx ry ⟨d, e, hd, he, ld, le, hm, q⟩
  obtain ⟨as, r1⟩ := Dp.reads I d x v hd rx
  obtain ⟨bs, r2⟩ := Dp.reads I e y u he ry
  exact SeqAt.compareNe_reads r1 r2 ld le (by omega) ⟨.bl _, H, I, rfl, q⟩
end
def eqB (d e : D) : Option Bool := match d, e with
  | .rp a, .rp b => some (decide (a.shown = b.shown))
  | .rp a, .str y => some (decide (a.shown = y))
  | .str x, .rp b => some (decide (x = b.shown))
  | d, e => if eqOk d e = true then some (eqv d e) else none
def eqD (d e : D) : Option D := (eqB d e).bind fun c => some (.bl c)
def neD (d e : D) : Option D := (eqB d e).bind fun c => some (.bl (!c))
theorem eqOkE {d e : D} (h : eqOk d e = true) : d.py = true ∧ e.py = true ∧ min d.toPy.depth e.toPy.depth ≤ 60 := by
  unfold eqOk at h
  rw [Bool.and_eq_true, Bool.and_eq_true, decide_eq_true_eq] at h
  exact ⟨h.1.1, h.1.2, h.2⟩
abbrev rEqU (K : PySem.W.Frag) : R2 := fun x y H Q => rEqA K false x y H Q ∨ rEq x y H Q
abbrev rNeU (K : PySem.W.Frag) : R2 := fun x y H Q => rEqA K true x y H Q ∨ rNe x y H Q
theorem op_eqU {X : Cx} (hu : X.A.units + 65 < cLine) : OpR X (compareOp .Eq) (rEqU X.K) := (op_eqA hu).or op_eq
theorem op_neU {X : Cx} (hu : X.A.units + 65 < cLine) : OpR X (compareOp .NotEq) (rNeU X.K) := (op_neA hu).or op_ne
section
variable {K : PySem.W.Frag}
theorem Vw.rpE {F H : Hp} {v : V} {p : PyData} (h : Vw K F H v (.rp p)) : v = .str p.shown := by
  cases h with
  | rep r => cases r; rfl
theorem dec_strV (x y : Str) : decide (V.str x = V.str y) = decide (x = y) := by
  by_cases h : x = y
  · subst h; simp
  · rw [decide_eq_false h, decide_eq_false (fun e => h (V.str.inj e))]
theorem eq_core {F H : Hp} {x y : V} {d e : D} {c : Bool} (sm : Sub F H) (hx : Vw K F H x d) (hy : Vw K F H y e) (h : eqB d e = some c) :
    (∃ p q, Dp K H x p ∧ Dp K H y q ∧ p.canLay0 = true ∧ q.canLay0 = true ∧ min p.depth q.depth ≤ 60 ∧ PyData.eqv p q = c) ∨ (scal x y = true ∧ decide (x = y) = c) := by
  unfold eqB at h
  split at h
  · cases h
    rw [hx.rpE, hy.rpE]
    exact .inr ⟨rfl, dec_strV _ _⟩
  · cases h
    rw [hx.rpE, hy.strE.1]
    exact .inr ⟨rfl, dec_strV _ _⟩
  · cases h
    rw [hx.strE.1, hy.rpE]
    exact .inr ⟨rfl, dec_strV _ _⟩
  · split at h
    · rename_i c
      cases h
      obtain ⟨h1, h2, h3⟩ := eqOkE c
      obtain ⟨a1, a2⟩ := (hx.whole sm (py_nod h1)).dp h1
      obtain ⟨b1, b2⟩ := (hy.whole sm (py_nod h2)).dp h2
      exact .inl ⟨_, _, a1, b1, a2, b2, h3, rfl⟩
    · cases h
theorem s_eq : Op2 K .leaf (rEqU K) eqD := by
  intro F H x y d e z Q sm hx hy hf ok
  unfold eqD at hf
  cases h : eqB d e with
  | none => rw [h] at hf; cases hf
  | some c =>
    rw [h] at hf
    cases hf
    have q := ok.here sm (.bl c)
    rcases eq_core sm hx hy h with ⟨p, p', a1, a2, a3, a4, a5, a6⟩ | ⟨a1, a2⟩
    · exact .inl ⟨p, p', a1, a2, a3, a4, a5, by rw [a6]; exact q⟩
    · exact .inr ⟨a1, by rw [a2]; exact q⟩
theorem s_ne : Op2 K .leaf (rNeU K) neD := by
  intro F H x y d e z Q sm hx hy hf ok
  unfold neD at hf
  cases h : eqB d e with
  | none => rw [h] at hf; cases hf
  | some c =>
    rw [h] at hf
    cases hf
    have q := ok.here sm (.bl (!c))
    rcases eq_core sm hx hy h with ⟨p, p', a1, a2, a3, a4, a5, a6⟩ | ⟨a1, a2⟩
    · exact .inl ⟨p, p', a1, a2, a3, a4, a5, by rw [a6]; exact q⟩
    · exact .inr ⟨a1, by rw [a2]; exact q⟩

/-! ### numbers -/
def i2 (g : Int → Int → Option D) : D → D → Option D
  | .int i, .int j => g i j
  | _, _ => none
theorem i2E {g : Int → Int → Option D} {d e z : D} (h : i2 g d e = some z) : ∃ i j, d = .int i ∧ e = .int j ∧ g i j = some z := by
  unfold i2 at h
  split at h
  · exact ⟨_, _, rfl, rfl, h⟩
  · cases h
def subD := i2 fun i j => some (.int (i - j))
def fdivD := i2 fun i j => if 0 < j ∧ j < 10 ^ 30 then some (.int (i / j)) else none
theorem s_fdiv : Op2 K .leaf (rI CDivW fun i j => .int (i / j)) fdivD := by
  intro F H x y d e z Q sm hx hy hf ok
  obtain ⟨i, j, rfl, rfl, h⟩ := i2E hf
  by_cases c : 0 < j ∧ j < 10 ^ 30
  · rw [if_pos c] at h
    cases h
    refine ⟨i, j, hx.intE, hy.intE, wide_div (b := 100) c.1 ?_ (by decide) (by decide), ok.here sm (.int _)⟩
    have h1 : j < 1000000000000000000000000000000 := c.2
    have h2 : (2 ^ 100 : Nat) = 1267650600228229401496703205376 := by decide
    rw [h2]
    omega
  · rw [if_neg c] at h; cases h
def modD := i2 fun i j => if 0 < j then some (.int (i % j)) else none
theorem s_mod : Op2 K .leaf (rI (fun _ j => 0 < j) fun i j => .int (i % j)) modD := by
  intro F H x y d e z Q sm hx hy hf ok
  obtain ⟨i, j, rfl, rfl, h⟩ := i2E hf
  by_cases c : 0 < j
  · rw [if_pos c] at h
    cases h
    exact ⟨i, j, hx.intE, hy.intE, c, ok.here sm (.int _)⟩
  · rw [if_neg c] at h; cases h
def powD := i2 fun i j => if 0 ≤ j ∧ j ≤ 1000 ∧ i.natAbs < 2 ^ 64 then some (.int (i ^ j.toNat)) else none
theorem s_pow : Op2 K .leaf (rI CPow fun i j => .int (i ^ j.toNat)) powD := by
  intro F H x y d e z Q sm hx hy hf ok
  obtain ⟨i, j, rfl, rfl, h⟩ := i2E hf
  by_cases c : 0 ≤ j ∧ j ≤ 1000 ∧ i.natAbs < 2 ^ 64
  · rw [if_pos c] at h
    cases h
    exact ⟨i, j, hx.intE, hy.intE, ⟨c.1, by omega, c.2.2⟩, ok.here sm (.int _)⟩
  · rw [if_neg c] at h; cases h
def ltD := i2 fun i j => some (.bl (decide (i < j)))
def leD := i2 fun i j => some (.bl (decide (i ≤ j)))
def gtD := i2 fun i j => some (.bl (decide (j < i)))
def geD := i2 fun i j => some (.bl (decide (j ≤ i)))
theorem s_b {g : Int → Int → Bool} : Op2 K .leaf (rI0 fun i j => .bl (g i j)) (i2 fun i j => some (.bl (g i j))) := by
  intro F H x y d e z Q sm hx hy hf ok
  obtain ⟨i, j, rfl, rfl, h⟩ := i2E hf
  cases h
  exact ⟨i, j, hx.intE, hy.intE, ok.here sm (.bl _)⟩
def negD : D → Option D
  | .int i => some (.int (-i))
  | _ => none
theorem s_neg : Op1 K .leaf (rU fun i => .int (-i)) negD := by
  intro F H x d z Q sm hx hf ok
  unfold negD at hf
  split at hf
  · cases hf
    exact ⟨_, hx.intE, ok.here sm (.int _)⟩
  · cases hf
/-- is None -/
def D.isN : D → Bool
  | .non => true
  | _ => false
def isND : D → D → Option D
  | d, .non => some (.bl d.isN)
  | _, _ => none
def notND : D → D → Option D
  | d, .non => some (.bl (!d.isN))
  | _, _ => none
theorem Vw.non_iff {F H : Hp} {v : V} {d : D} (h : Vw K F H v d) : decide (v = .non) = d.isN := by
  cases h with
  | rep r => cases r <;> simp [D.isN]
  | lst _ _ => simp [D.isN]
  | dK _ _ _ => simp [D.isN]
  | dT _ _ _ => simp [D.isN]
theorem s_isN : Op2 K .leaf (fun x y H Q => y = .non ∧ Q (.bl (decide (x = .non))) H) isND := by
  intro F H x y d e z Q sm hx hy hf ok
  unfold isND at hf
  split at hf
  · cases hf
    exact ⟨hy.nonE, by rw [hx.non_iff]; exact ok.here sm (.bl _)⟩
  · cases hf
theorem s_notN : Op2 K .leaf (fun x y H Q => y = .non ∧ Q (.bl (!decide (x = .non))) H) notND := by
  intro F H x y d e z Q sm hx hy hf ok
  unfold notND at hf
  split at hf
  · cases hf
    exact ⟨hy.nonE, by rw [hx.non_iff]; exact ok.here sm (.bl _)⟩
  · cases hf

/-! ### + -/
def addD : D → D → Option D
  | .int i, .int j => some (.int (i + j))
  | .str x, .str y => if x.length + y.length ≤ 16777216 then some (.str (x ++ y)) else none
  | .tup xs, .tup ys => if xs.length + ys.length ≤ 16777216 then some (.tup (xs ++ ys)) else none
  | .lst xs, .lst ys => if xs.length + ys.length ≤ 16777216 then some (.lst (xs ++ ys)) else none
  | _, _ => none
abbrev rAddA (K : PySem.W.Frag) : R2 := fun x y H Q => (rI0 fun i j => .int (i + j)) x y H Q ∨ (∃ i j, x = .str i ∧ y = .str j ∧ i.length + j.length ≤ sizeLine ∧ Q (.str (i ++ j)) H) ∨ rCatF K x y H Q ∨ rCat x y H Q
theorem op_addA {X : Cx} : OpR X (binaryOp .Add) (rAddA X.K) := op_add.or (op_add_str.or (op_catF.or op_cat))
theorem rep_key {K : PySem.W.Frag} {F : Hp} : ∀ k : Key, ascK k = true → Rep K F (kV k) (keyD k)
  | .inl i, _ => .int i
  | .inr x, h => .str x h
theorem reps_keys {K : PySem.W.Frag} {F : Hp} : ∀ ks : List Key, ks.all ascK = true → Reps K F (ks.map kV) (ks.map keyD)
  | [], _ => .nil
  | k :: ks, h => by
    rw [List.all_cons, Bool.and_eq_true] at h
    exact .cons (rep_key k h.1) (reps_keys ks h.2)
theorem Vw.keyR {F H : Hp} (sm : Sub F H) {v : V} {ks : List Key} (h : Vw K F H v (.key ks)) : ∃ p, v = .ref p ∧ SqT K H p (ks.map kV) ∧ Reps K F (ks.map kV) (ks.map keyD) := by
  obtain ⟨p, e1, e2, e3⟩ := h.keyE
  exact ⟨p, e1, .of (sm _ _ e2), reps_keys ks e3⟩
theorem Vw.tupR {F H : Hp} (sm : Sub F H) {v : V} {ds : List D} (h : Vw K F H v (.tup ds)) : ∃ p vs, v = .ref p ∧ SqT K H p vs ∧ TupF F p vs ∧ Reps K F vs ds := by
  obtain ⟨p, vs, e1, e2, e3⟩ := h.tupE
  exact ⟨p, vs, e1, (e2.mono sm).sq K, e2, e3⟩
theorem s_add : Op2 K .leaf (rAddA K) addD := by
  intro F H x y d e z Q sm hx hy hf ok
  unfold addD at hf
  split at hf
  · cases hf
    exact .inl ⟨_, _, hx.intE, hy.intE, ok.here sm (.int _)⟩
  · split at hf
    · rename_i c
      cases hf
      exact .inr (.inl ⟨_, _, hx.strE.1, hy.strE.1, line_ok c, ok.here sm (.str _ (asc_cat hx.strE.2 hy.strE.2 c))⟩)
    · cases hf
  · split at hf
    · rename_i c
      cases hf
      obtain ⟨p, vs, e1, e2, e2', e3⟩ := hx.tupR sm
      obtain ⟨q, ws, e4, e5, e5', e6⟩ := hy.tupR sm
      refine .inr (.inr (.inl ⟨p, q, vs, ws, e1, e4, e2, e5, ?_, fun z => ?_, fun z z' => ?_, fun _ _ t us nt => ok.newT sm (e3.append e6) nt⟩))
      · rw [e3.length, e6.length]; exact line_ok c
      · subst z
        cases e3
        exact ok.here sm (.tup e5' e6)
      · subst z'
        cases e6
        rw [List.append_nil] at ok
        exact ok.here sm (.tup e2' e3)
    · cases hf
  · split at hf
    · rename_i c
      cases hf
      obtain ⟨p, vs, e1, e2, e3⟩ := hx.lstE sm
      obtain ⟨q, ws, e4, e5, e6⟩ := hy.lstE sm
      refine .inr (.inr (.inr ⟨p, q, vs, ws, e1, e4, e2, e5, ?_, fun t nt => ok.newLf sm (e3.append e6) nt⟩))
      rw [e3.length, e6.length]; exact line_ok c
    · cases hf
  · cases hf
/-! ### * -/
def repS (x : Str) (k : Nat) : Str := ⟨(List.replicate k x.cps.toList).flatten.toArray⟩
theorem foldl_cat (x : Array Nat) : ∀ (k : Nat) (a : Array Nat), ((List.replicate k x).foldl (· ++ ·) a).toList = a.toList ++ (List.replicate k x.toList).flatten
  | 0, a => by simp
  | k + 1, a => by
    rw [List.replicate_succ, List.foldl_cons, foldl_cat x k (a ++ x), List.replicate_succ, List.flatten_cons, Array.toList_append, List.append_assoc]
theorem op_mul_str {X : Cx} : OpR X (binaryOp .Mult) (fun x y H Q => ∃ z k, x = .str z ∧ y = .int k ∧ 0 ≤ k ∧ k ≤ 1000 ∧ z.length ≤ 1000 ∧ Q (.str (repS z k.toNat)) H) := by
  intro pins s σ H x y v u Q I rx ry ⟨z, k, ex, ey, h0, h1, h2, q⟩
  subst ex ey
  obtain ⟨t, rfl⟩ := rx
  obtain ⟨t', rfl⟩ := ry
  have key : ∀ n : Nat, n = k.toNat → (repS z n).cps.toList = (List.replicate n z.cps.toList).flatten := fun n _ => by simp [repS]
  have hsz : z.length * k.toNat ≤ 1000000 := by
    have h3 : k.toNat ≤ 1000 := by omega
    have h4 : z.length * k.toNat ≤ 1000 * 1000 := Nat.mul_le_mul h2 h3
    omega
  refine PySem.P.mul_str (by rw [decide_eq_false (by omega), decide_eq_false (by omega)]; rfl) (fun c1 c2 c3 => ?_) (fun _ _ => ?_) ?_
  · have h3 : (z.length : Int) ≤ 1000 := by omega
    have h4 : (1000 : Int) ≤ (2 ^ 63 - 1) / k := by
      refine (Int.le_ediv_iff_mul_le (by omega)).mpr ?_
      have : (1000 : Int) * k ≤ 1000 * 1000 := Int.mul_le_mul_of_nonneg_left h1 (by omega)
      omega
    omega
  · unfold Builtin.Str.tooLong
    rw [sizeLine_eq]
    exact decide_eq_false (by omega)
  · by_cases c1 : k < 1
    · rw [if_pos c1]
      have e0 : k.toNat = 0 := by omega
      rw [e0] at q
      refine ⟨by decide, .str Str.empty, H, I.tok _, ⟨_, rfl⟩, ?_⟩
      exact q
    · rw [if_neg c1]
      by_cases c2 : (k == 1 || z.length == 0) = true
      · rw [if_pos c2]
        have e1 : repS z k.toNat = z := by
          refine TL.ext_tl ?_
          show (repS z k.toNat).cps.toList = z.cps.toList
          rw [key _ rfl]
          rcases (Bool.or_eq_true _ _).mp c2 with c | c
          · have : k.toNat = 1 := by have := eq_of_beq c; omega
            rw [this]; simp
          · have : z.cps.toList = [] := by
              have q1 : z.length = 0 := eq_of_beq c
              have q2 : z.cps.toList.length = 0 := by rw [Array.length_toList]; exact q1
              exact List.eq_nil_of_length_eq_zero q2
            rw [this]; simp
        rw [e1] at q
        exact ⟨.str z, H, I, ⟨_, rfl⟩, q⟩
      · rw [if_neg c2]
        have e1 : (⟨(List.replicate k.toNat z.cps).foldl (· ++ ·) #[]⟩ : Str) = repS z k.toNat := by
          refine TL.ext_tl ?_
          show ((List.replicate k.toNat z.cps).foldl (· ++ ·) #[]).toList = (repS z k.toNat).cps.toList
          rw [key _ rfl, foldl_cat]
          simp
        rw [e1]
        refine ⟨?_, .str _, H, I.tok _, ⟨_, rfl⟩, q⟩
        show (repS z k.toNat).cps.size ≤ sizeLine
        rw [← Array.length_toList, key _ rfl, List.length_flatten, List.map_replicate, List.sum_replicate_nat, Array.length_toList, sizeLine_eq]
        have : k.toNat * z.cps.size = z.length * k.toNat := Nat.mul_comm _ _
        omega
def mulOk (i j : Int) : Bool := decide (-(2 ^ 64) < i ∧ i < 2 ^ 64) || decide (-(2 ^ 64) < j ∧ j < 2 ^ 64) || (decide (i.natAbs < 2 ^ 4000) && decide (j.natAbs < 2 ^ 4000))
def mulD : D → D → Option D
  | .int i, .int j => if mulOk i j = true then some (.int (i * j)) else none
  | .str x, .int k => if 0 ≤ k ∧ k ≤ 1000 ∧ x.length ≤ 1000 then some (.str (repS x k.toNat)) else none
  | .tup xs, .int k => if 2 ≤ k ∧ k ≤ 1000 ∧ xs.length ≤ 1000 ∧ xs.length ≠ 0 then some (.tup (List.replicate k.toNat xs).flatten) else none
  | .lst xs, .int k => if -1000 ≤ k ∧ k ≤ 1000 ∧ xs.length ≤ 1000 then some (.lst (List.replicate k.toNat xs).flatten) else none
  | _, _ => none
abbrev rMulA (K : PySem.W.Frag) : R2 := fun x y H Q => (rI CMul fun i j => .int (i * j)) x y H Q ∨ (rI CMulW fun i j => .int (i * j)) x y H Q ∨ (∃ z k, x = .str z ∧ y = .int k ∧ 0 ≤ k ∧ k ≤ 1000 ∧ z.length ≤ 1000 ∧ Q (.str (repS z k.toNat)) H) ∨ rRepF K x y H Q ∨ rRep x y H Q
theorem op_mulA {X : Cx} : OpR X (binaryOp .Mult) (rMulA X.K) := op_mul.or (op_mulW.or (op_mul_str.or (op_repF.or op_rep)))
theorem asc_rep {x : Str} (h : asc x = true) {k : Nat} (hk : k ≤ 1000) (hl : x.length ≤ 1000) : asc (repS x k) = true := by
  have e : (repS x k).cps.toList = (List.replicate k x.cps.toList).flatten := by simp [repS]
  refine asc_mk (fun c m => ?_) ?_
  · rw [e, List.mem_flatten] at m
    obtain ⟨l, m1, m2⟩ := m
    rw [List.mem_replicate] at m1
    rw [m1.2] at m2
    exact (ascE h).1 c m2
  · show (repS x k).cps.size ≤ _
    rw [← Array.length_toList, e, List.length_flatten, List.map_replicate, List.sum_replicate_nat, Array.length_toList]
    have : k * x.cps.size ≤ 1000 * 1000 := Nat.mul_le_mul hk hl
    omega
theorem s_mul : Op2 K .leaf (rMulA K) mulD := by
  intro F H x y d e z Q sm hx hy hf ok
  unfold mulD at hf
  split at hf
  · split at hf
    · rename_i i j c
      cases hf
      unfold mulOk at c
      rw [Bool.or_eq_true, Bool.or_eq_true, Bool.and_eq_true, decide_eq_true_eq, decide_eq_true_eq, decide_eq_true_eq, decide_eq_true_eq] at c
      rcases c with (c | c) | c
      · exact .inl ⟨_, _, hx.intE, hy.intE, .inl c, ok.here sm (.int _)⟩
      · exact .inl ⟨_, _, hx.intE, hy.intE, .inr c, ok.here sm (.int _)⟩
      · exact .inr (.inl ⟨_, _, hx.intE, hy.intE, wide_mul c.1 c.2 (by decide) (by decide) (by decide), ok.here sm (.int _)⟩)
    · cases hf
  · split at hf
    · rename_i c
      cases hf
      exact .inr (.inr (.inl ⟨_, _, hx.strE.1, hy.intE, c.1, c.2.1, c.2.2, ok.here sm (.str _ (asc_rep hx.strE.2 (by omega) c.2.2))⟩))
    · cases hf
  · split at hf
    · rename_i c
      cases hf
      obtain ⟨p, vs, e1, e2, e2', e3⟩ := hx.tupR sm
      refine .inr (.inr (.inr (.inl ⟨p, _, vs, e1, hy.intE, e2, fun z => ?_, c.1, c.2.1, by rw [e3.length]; exact c.2.2.1, fun t us nt => ok.newT sm (e3.replicate _) nt⟩)))
      subst z
      cases e3
      exact c.2.2.2 rfl
    · cases hf
  · split at hf
    · rename_i k c
      cases hf
      obtain ⟨p, vs, e1, e2, e3⟩ := hx.lstE sm
      refine .inr (.inr (.inr (.inr ⟨p, _, vs, e1, hy.intE, e2, by omega, by omega, ?_, fun t nt => ok.newLf sm (e3.replicate _) nt⟩)))
      rw [e3.length, sizeLine_eq]
      have h3 : k.toNat ≤ 1000 := by omega
      have : _ * k.toNat ≤ 1000 * 1000 := Nat.mul_le_mul c.2.2 h3
      omega
    · cases hf
  · cases hf
end
end VL
/-! V5: items, slices, in, len, list, tuple, isinstance, all, any, sum, min, max, int, join, find, upper. -/
namespace VL
open PySem PySem.Spec L2

/-! ### keys -/
def keyK : D → Option Key
  | .int i => some (.inl i)
  | .str x => some (.inr x)
  | _ => none
def keyTs : List D → Option (List Key)
  | [] => some []
  | d :: ds => (keyK d).bind fun k => (keyTs ds).bind fun ks => some (k :: ks)
def keyT : D → Option (List Key)
  | .key ks => some ks
  | _ => none
def look {κ : Type} [DecidableEq κ] (ds : List (κ × D)) (k : κ) : Option D := (ds.find? fun kv => decide (kv.1 = k)).map Prod.snd
def put {κ : Type} [DecidableEq κ] (ds : List (κ × D)) (k : κ) (d : D) : List (κ × D) := if (ds.any fun kv => decide (kv.1 = k)) = true then ds.map fun kv => if kv.1 = k then (kv.1, d) else kv else ds ++ [(k, d)]
section
variable {K : PySem.W.Frag} {F H : Hp}
theorem keyKE {v : V} {d : D} {k : Key} (h : Vw K F H v d) (e : keyK d = some k) : v = kV k := by
  unfold keyK at e
  split at e
  · cases e; exact h.intE
  · cases e; exact h.strE.1
  · cases e
theorem keyTsE : ∀ {vs : List V} {ds : List D} {ks : List Key}, Reps K F vs ds → keyTs ds = some ks → vs = ks.map kV
  | _, _, _, .nil, e => by cases e; rfl
  | _, d :: ds, ks, .cons h t, e => by
    have e' : ((keyK d).bind fun k => (keyTs ds).bind fun ks => some (k :: ks)) = some ks := e
    cases e1 : keyK d with
    | none => rw [e1] at e'; cases e'
    | some k =>
      cases e2 : keyTs ds with
      | none => rw [e1, e2] at e'; cases e'
      | some ls =>
        rw [e1, e2] at e'
        cases e'
        rw [keyKE (F := F) (H := F) (.rep h) e1, keyTsE t e2]
        rfl
theorem keyTE (sm : Sub F H) {v : V} {d : D} {k : List Key} (h : Vw K F H v d) (e : keyT d = some k) : ∃ b, v = .ref b ∧ H b = some (.tup (k.map kV)) := by
  unfold keyT at e
  split at e
  · obtain ⟨p, e1, e2, _⟩ := h.keyE
    cases e
    exact ⟨p, e1, sm _ _ e2⟩
  · cases e
theorem look_val {κ : Type} [DecidableEq κ] (k : κ) : ∀ {kvs : List (κ × V)} {ds : List (κ × D)}, kvs.map Prod.fst = ds.map Prod.fst → Reps K F (kvs.map Prod.snd) (ds.map Prod.snd) →
    (look ds k = none → valV kvs k = none) ∧ ∀ d, look ds k = some d → ∃ v, valV kvs k = some v ∧ Rep K F v d
  | [], [], _, _ => ⟨fun _ => rfl, fun d h => by simp [look] at h⟩
  | [], _ :: _, e, _ => by cases e
  | _ :: _, [], e, _ => by cases e
  | (a, v) :: kvs, (b, d) :: ds, e, r => by
    have e1 : a = b := (List.cons.inj e).1
    have e2 := (List.cons.inj e).2
    subst e1
    cases r with
    | cons h t =>
      obtain ⟨i1, i2⟩ := look_val k e2 t
      by_cases c : a = k
      · refine ⟨fun z => by simp [look, c] at z, fun x z => ?_⟩
        have : d = x := by simpa [look, c] using z
        subst this
        exact ⟨v, by simp [valV, c], h⟩
      · have l1 : look ((a, d) :: ds) k = look ds k := by simp [look, c]
        have l2 : valV ((a, v) :: kvs) k = valV kvs k := by simp [valV, c]
        rw [l1, l2]
        exact ⟨i1, i2⟩
theorem look_some {κ : Type} [DecidableEq κ] (k : κ) {kvs : List (κ × V)} {ds : List (κ × D)} (e : kvs.map Prod.fst = ds.map Prod.fst) (r : Reps K F (kvs.map Prod.snd) (ds.map Prod.snd)) : (valV kvs k).isSome = (look ds k).isSome := by
  obtain ⟨l1, l2⟩ := look_val k e r
  cases e3 : look ds k with
  | none => rw [l1 e3]; rfl
  | some d => obtain ⟨w, w1, _⟩ := l2 d e3; rw [w1] <;> rfl
theorem any_key {κ : Type} [DecidableEq κ] (k : κ) : ∀ {kvs : List (κ × V)} {ds : List (κ × D)}, kvs.map Prod.fst = ds.map Prod.fst → (kvs.any fun kv => decide (kv.1 = k)) = ds.any fun kv => decide (kv.1 = k)
  | [], [], _ => rfl
  | [], _ :: _, e => by cases e
  | _ :: _, [], e => by cases e
  | (a, v) :: kvs, (b, d) :: ds, e => by
    have e1 : a = b := (List.cons.inj e).1
    subst e1
    simp only [List.any_cons, any_key k (List.cons.inj e).2]
theorem put_keys {κ : Type} [DecidableEq κ] (k : κ) (v : V) (d : D) {kvs : List (κ × V)} {ds : List (κ × D)} (e : kvs.map Prod.fst = ds.map Prod.fst) : (putK kvs k v).map Prod.fst = (put ds k d).map Prod.fst := by
  unfold putK put
  rw [any_key k e]
  have m1 : ∀ l : List (κ × V), (l.map fun kv => if kv.1 = k then (kv.1, v) else kv).map Prod.fst = l.map Prod.fst := fun l => by
    rw [List.map_map]; exact List.map_congr_left fun x _ => by show (if x.1 = k then (x.1, v) else x).1 = x.1; split <;> rfl
  have m2 : ∀ l : List (κ × D), (l.map fun kv => if kv.1 = k then (kv.1, d) else kv).map Prod.fst = l.map Prod.fst := fun l => by
    rw [List.map_map]; exact List.map_congr_left fun x _ => by show (if x.1 = k then (x.1, d) else x).1 = x.1; split <;> rfl
  split
  · rw [m1, m2, e]
  · rw [List.map_append, List.map_append, e]; rfl
theorem repl_reps {κ : Type} [DecidableEq κ] (k : κ) {v : V} {d : D} (r : Rep K F v d) : ∀ {kvs : List (κ × V)} {ds : List (κ × D)}, kvs.map Prod.fst = ds.map Prod.fst → Reps K F (kvs.map Prod.snd) (ds.map Prod.snd) →
    Reps K F ((kvs.map fun kv => if kv.1 = k then (kv.1, v) else kv).map Prod.snd) ((ds.map fun kv => if kv.1 = k then (kv.1, d) else kv).map Prod.snd)
  | [], [], _, _ => .nil
  | [], _ :: _, e, _ => by cases e
  | _ :: _, [], e, _ => by cases e
  | x :: kvs, y :: ds, e, q => by
    have e1 : x.1 = y.1 := (List.cons.inj e).1
    cases q with
    | cons h t =>
      refine .cons ?_ (repl_reps k r (List.cons.inj e).2 t)
      show Rep K F (if x.1 = k then (x.1, v) else x).2 (if y.1 = k then (y.1, d) else y).2
      rw [e1]
      split
      · exact r
      · exact h
theorem put_reps {κ : Type} [DecidableEq κ] (k : κ) {v : V} {d : D} (r : Rep K F v d) {kvs : List (κ × V)} {ds : List (κ × D)} (e : kvs.map Prod.fst = ds.map Prod.fst) (q : Reps K F (kvs.map Prod.snd) (ds.map Prod.snd)) : Reps K F ((putK kvs k v).map Prod.snd) ((put ds k d).map Prod.snd) := by
  unfold putK put
  rw [any_key k e]
  split
  · exact repl_reps k r e q
  · rw [List.map_append, List.map_append]
    exact q.append (.cons r .nil)
theorem put_len {κ : Type} [DecidableEq κ] (k : κ) (v : V) (d : D) {kvs : List (κ × V)} {ds : List (κ × D)} (e : kvs.map Prod.fst = ds.map Prod.fst) : kvs.length = ds.length := by
  have := congrArg List.length e
  simpa using this
end

/-! ### items -/
def ixD : D → D → Option D
  | .lst ds, .int i => atI ds i
  | .tup ds, .int i => atI ds i
  | .key ks, .int i => atI (ks.map keyD) i
  | .str z, .int i => (atI z.cps.toList i).bind fun c => some (.str ⟨#[c]⟩)
  | .dK kvs, k => (keyK k).bind fun q => look kvs q
  | .dT kvs, k => (keyT k).bind fun q => look kvs q
  | _, _ => none
abbrev rIxD : R2 := fun x y H Q => ∃ a v, x = .ref a ∧ DGet H a y (some v) ∧ Q v H
theorem ix_dict {X : Cx} (hu : X.A.units + 1 < cLine) : IxR X rIxD := by
  intro value slice pins s σ H x y v u Q I rx ry ⟨a, w, ex, g, q⟩ hs
  subst ex
  cases rx
  exact PyProof.Rows.tail_any (dict_typeIs I g) PySem.F.slot_dict_getitem.lookup (d_getItem hu I g ry fun w' s3 I3 rw' => ⟨w, H, I3, rw', q⟩) hs
abbrev rIxA (K : PySem.W.Frag) : R2 := fun x y H Q => rIxD x y H Q ∨ rIx K x y H Q
theorem ix_all {X : Cx} (hu : X.A.units + 1 < cLine) : IxR X (rIxA X.K) := (ix_dict hu).or ix_seq
section
variable {K : PySem.W.Frag}
theorem atI_reps {F : Hp} {vs : List V} {ds : List D} (r : Reps K F vs ds) {i : Int} {d : D} (h : atI ds i = some d) : ∃ v, atI vs i = some v ∧ Rep K F v d := by
  unfold atI at h ⊢
  rw [r.length]
  cases e : ixN ds.length i with
  | none => rw [e] at h; cases h
  | some j => rw [e] at h; exact r.get h
theorem atI_mem {α : Type} {xs : List α} {i : Int} {c : α} (h : atI xs i = some c) : c ∈ xs := by
  unfold atI at h
  cases e : ixN xs.length i with
  | none => rw [e] at h; cases h
  | some j => rw [e] at h; exact List.mem_of_getElem? h
theorem s_ix : Op2 K .leaf (rIxA K) ixD := by
  intro F H x y d e z Q sm hx hy hf ok
  unfold ixD at hf
  split at hf
  · obtain ⟨p, vs, e1, e2, e3⟩ := hx.lstE sm
    obtain ⟨w, q1, q2⟩ := atI_reps e3 hf
    exact .inr (.inl ⟨p, vs, _, w, e1, hy.intE, .of e2, q1, ok.here sm q2⟩)
  · obtain ⟨p, vs, e1, e2, _, e3⟩ := hx.tupR sm
    obtain ⟨w, q1, q2⟩ := atI_reps e3 hf
    exact .inr (.inr (.inl ⟨p, vs, _, w, e1, hy.intE, e2, q1, ok.here sm q2⟩))
  · obtain ⟨p, e1, e2, e3⟩ := hx.keyR sm
    obtain ⟨w, q1, q2⟩ := atI_reps e3 hf
    exact .inr (.inr (.inl ⟨p, _, _, w, e1, hy.intE, e2, q1, ok.here sm q2⟩))
  · rename_i zz i
    cases e : atI zz.cps.toList i with
    | none => rw [e] at hf; cases hf
    | some c =>
      rw [e] at hf
      cases hf
      exact .inr (.inr (.inr ⟨zz, i, c, hx.strE.1, hy.intE, asc_line hx.strE.2, e, ok.here sm (.str _ (asc_one hx.strE.2 (atI_mem e)))⟩))
  · cases e : keyK _ with
    | none => rw [e] at hf; cases hf
    | some k =>
      rw [e] at hf
      obtain ⟨p, kvs, e1, e2, e3, e4⟩ := hx.dKE sm
      obtain ⟨w, q1, q2⟩ := (look_val k e3 e4).2 _ hf
      refine .inl ⟨p, w, e1, ?_, ok.here sm q2⟩
      rw [keyKE hy e, ← q1]
      exact .inl ⟨_, _, e2, rfl, rfl⟩
  · cases e : keyT _ with
    | none => rw [e] at hf; cases hf
    | some k =>
      rw [e] at hf
      obtain ⟨p, kvs, e1, e2, e3, e4⟩ := hx.dTE sm
      obtain ⟨w, q1, q2⟩ := (look_val k e3 e4).2 _ hf
      obtain ⟨b, b1, b2⟩ := keyTE sm hy e
      refine .inl ⟨p, w, e1, ?_, ok.here sm q2⟩
      rw [b1, ← q1]
      exact .inr ⟨_, _, _, e2, rfl, b2, rfl⟩
  · cases hf

/-! ### in -/
abbrev rInA (K : PySem.W.Frag) (neg : Bool) : R2 := fun x y H Q => ∃ d ds, Dp K H x d ∧ (Dp K H y (.list ds) ∨ Dp K H y (.tuple ds)) ∧ d.canLay0 = true ∧ PyData.canLayAll0 ds = true ∧ d.depth ≤ 60 ∧ Q (.bl (if neg then !ds.any fun z => PyData.eqv z d else ds.any fun z => PyData.eqv z d)) H
abbrev rInDk (neg : Bool) : R2 := fun y x H Q => ∃ a o, x = .ref a ∧ DGet H a y o ∧ Q (.bl (if neg then !o.isSome else o.isSome)) H
abbrev rInStr (neg : Bool) : R2 := fun x y H Q => ∃ i j, x = .str i ∧ y = .str j ∧ Q (.bl (if neg then !(!(Builtin.Str.occurrences j i 0 j.length 1).isEmpty) else !(Builtin.Str.occurrences j i 0 j.length 1).isEmpty)) H
theorem op_inA {X : Cx} (hu : X.A.units + 64 < cLine) : OpR X (compareOp .In) (rInA X.K false) := by
  intro pins s σ H x y v u Q I rx ry ⟨d, ds, hd, he, l1, l2, hm, q⟩
  obtain ⟨as, r1⟩ := Dp.reads I d x v hd rx
  rcases he with he | he
  · obtain ⟨bs, r2⟩ := Dp.reads I _ y u he ry
    exact SeqAt.in_list_reads r2 r1 l2 l1 (by omega) ⟨.bl _, H, I, rfl, q⟩
  · obtain ⟨bs, r2⟩ := Dp.reads I _ y u he ry
    exact SeqAt.in_tuple_reads r2 r1 l2 l1 (by omega) ⟨.bl _, H, I, rfl, q⟩
theorem op_ninA {X : Cx} (hu : X.A.units + 64 < cLine) : OpR X (compareOp .NotIn) (rInA X.K true) := by
  intro pins s σ H x y v u Q I rx ry ⟨d, ds, hd, he, l1, l2, hm, q⟩
  obtain ⟨as, r1⟩ := Dp.reads I d x v hd rx
  rcases he with he | he
  · obtain ⟨bs, r2⟩ := Dp.reads I _ y u he ry
    exact SeqAt.notIn_list_reads r2 r1 l2 l1 (by omega) ⟨.bl _, H, I, rfl, q⟩
  · obtain ⟨bs, r2⟩ := Dp.reads I _ y u he ry
    exact SeqAt.notIn_tuple_reads r2 r1 l2 l1 (by omega) ⟨.bl _, H, I, rfl, q⟩
theorem op_inDk {X : Cx} (hu : X.A.units + 1 < cLine) : OpR X (compareOp .In) (rInDk false) := by
  intro pins s σ H y x v u Q I ry rx ⟨a, o, ex, g, q⟩
  subst ex
  cases rx
  exact d_in hu I g ry fun s3 I3 => ⟨.bl _, H, I3, rfl, q⟩
theorem op_ninDk {X : Cx} (hu : X.A.units + 1 < cLine) : OpR X (compareOp .NotIn) (rInDk true) := by
  intro pins s σ H y x v u Q I ry rx ⟨a, o, ex, g, q⟩
  subst ex
  cases rx
  exact d_notIn hu I g ry fun s3 I3 => ⟨.bl _, H, I3, rfl, q⟩
abbrev rInU (K : PySem.W.Frag) (neg : Bool) : R2 := fun x y H Q => rInStr neg x y H Q ∨ rInA K neg x y H Q ∨ rInDk neg x y H Q
theorem op_inU {X : Cx} (hu : X.A.units + 64 < cLine) : OpR X (compareOp .In) (rInU X.K false) := OpR.or (r := rInStr false) op_in_str ((op_inA hu).or (op_inDk (by omega)))
theorem op_ninU {X : Cx} (hu : X.A.units + 64 < cLine) : OpR X (compareOp .NotIn) (rInU X.K true) := OpR.or (r := rInStr true) op_notin_str ((op_ninA hu).or (op_ninDk (by omega)))
def memD (d : D) (ds : List D) : Bool := ds.any fun z => eqv z d
def memOk (d : D) (ds : List D) : Bool := d.py && pyL ds && decide (d.toPy.depth ≤ 60)
def inB (d : D) : D → Option Bool
  | .str y => (match d with | .str x => some (!(Builtin.Str.occurrences y x 0 y.length 1).isEmpty) | _ => none)
  | .lst ds => if memOk d ds = true then some (memD d ds) else none
  | .tup ds => if memOk d ds = true then some (memD d ds) else none
  | .key ks => if memOk d (ks.map keyD) = true then some (memD d (ks.map keyD)) else none
  | .dK kvs => (keyK d).bind fun k => some (look kvs k).isSome
  | .dT kvs => (keyT d).bind fun k => some (look kvs k).isSome
  | _ => none
def inD (d e : D) : Option D := (inB d e).bind fun c => some (.bl c)
def ninD (d e : D) : Option D := (inB d e).bind fun c => some (.bl (!c))
theorem any_toPy (p : PyData) : ∀ ds : List D, (toPyL ds).any (fun z => PyData.eqv z p) = ds.any fun z => PyData.eqv z.toPy p
  | [] => by rw [toPyL]; rfl
  | d :: ds => by rw [toPyL, List.any_cons, List.any_cons, any_toPy p ds]
theorem s_inU (neg : Bool) : Op2 K .leaf (rInU K neg) (fun d e => (inB d e).bind fun c => some (.bl (if neg then !c else c))) := by
  intro F H x y d e z Q sm hx hy hf ok
  dsimp only at hf
  cases e1 : inB d e with
  | none => rw [e1] at hf; cases hf
  | some c =>
    rw [e1] at hf
    cases hf
    have sc : ∀ {ds : List D}, memOk d ds = true → d.py = true ∧ pyL ds = true ∧ d.toPy.depth ≤ 60 := fun {ds} h => by
      unfold memOk at h
      rw [Bool.and_eq_true, Bool.and_eq_true, decide_eq_true_eq] at h
      exact ⟨h.1.1, h.1.2, h.2⟩
    unfold inB at e1
    split at e1
    · split at e1
      · cases e1
        exact .inl ⟨_, _, hx.strE.1, hy.strE.1, ok.here sm (.bl _)⟩
      · cases e1
    · rename_i ds
      split at e1
      · rename_i cc
        cases e1
        obtain ⟨h1, h2, h3⟩ := sc cc
        obtain ⟨a1, a2⟩ := (hx.whole sm (py_nod h1)).dp h1
        obtain ⟨p, vs, q1, q2, q3⟩ := hy.lstE sm
        obtain ⟨b1, b2⟩ := (q3.mono sm.sm).dp h2
        subst q1
        refine .inr (.inl ⟨_, _, a1, .inl (.lst (.inl (.inl q2)) b1), a2, b2, h3, ?_⟩)
        rw [any_toPy]
        exact ok.here sm (.bl _)
      · cases e1
    · rename_i ds
      split at e1
      · rename_i cc
        cases e1
        obtain ⟨h1, h2, h3⟩ := sc cc
        obtain ⟨a1, a2⟩ := (hx.whole sm (py_nod h1)).dp h1
        obtain ⟨p, vs, q1, q2, _, q3⟩ := hy.tupR sm
        obtain ⟨b1, b2⟩ := (q3.mono sm.sm).dp h2
        subst q1
        refine .inr (.inl ⟨_, _, a1, .inr (.tup q2 b1), a2, b2, h3, ?_⟩)
        rw [any_toPy]
        exact ok.here sm (.bl _)
      · cases e1
    · rename_i ks
      split at e1
      · rename_i cc
        cases e1
        obtain ⟨h1, h2, h3⟩ := sc cc
        obtain ⟨a1, a2⟩ := (hx.whole sm (py_nod h1)).dp h1
        obtain ⟨p, q1, q2, q3⟩ := hy.keyR sm
        obtain ⟨b1, b2⟩ := (q3.mono sm.sm).dp h2
        subst q1
        refine .inr (.inl ⟨_, _, a1, .inr (.tup q2 b1), a2, b2, h3, ?_⟩)
        rw [any_toPy]
        exact ok.here sm (.bl _)
      · cases e1
    · cases e2 : keyK d with
      | none => rw [e2] at e1; cases e1
      | some k =>
        rw [e2] at e1
        cases e1
        obtain ⟨p, kvs, q1, q2, q3, q4⟩ := hy.dKE sm
        refine .inr (.inr ⟨p, valV kvs k, q1, by rw [keyKE hx e2]; exact .inl ⟨_, _, q2, rfl, rfl⟩, ?_⟩)
        rw [look_some k q3 q4]
        exact ok.here sm (.bl _)
    · cases e2 : keyT d with
      | none => rw [e2] at e1; cases e1
      | some k =>
        rw [e2] at e1
        cases e1
        obtain ⟨p, kvs, q1, q2, q3, q4⟩ := hy.dTE sm
        obtain ⟨b, b1, b2⟩ := keyTE sm hx e2
        refine .inr (.inr ⟨p, valV kvs k, q1, by rw [b1]; exact .inr ⟨_, _, _, q2, rfl, b2, rfl⟩, ?_⟩)
        rw [look_some k q3 q4]
        exact ok.here sm (.bl _)
    · cases e1
theorem s_in : Op2 K .leaf (rInU K false) inD := s_inU false
theorem s_nin : Op2 K .leaf (rInU K true) ninD := s_inU true

/-! ### slices -/
def cutL {α : Type} (xs : List α) (lo hi : Option Int) : List α := (xs.drop (HT.sIx xs.length 0 lo)).take (HT.sIx xs.length xs.length hi - HT.sIx xs.length 0 lo)
def cutD (lo hi : Option Int) : D → Option D
  | .lst ds => some (.lst (cutL ds lo hi))
  | .tup ds => some (.tup (cutL ds lo hi))
  | .str z => some (.str ⟨(cutL z.cps.toList lo hi).toArray⟩)
  | .scr ns => some (.lst ((cutL ns lo hi).map .int))
  | _ => none
theorem cut_reps {F : Hp} {vs : List V} {ds : List D} (r : Reps K F vs ds) (lo hi : Option Int) : Reps K F (cutV vs lo hi) (cutL ds lo hi) := by
  unfold cutV cutL
  rw [r.length]
  exact (r.drop _).take _
theorem cut_ints (ns : List Int) (lo hi : Option Int) : cutV (ns.map V.int) lo hi = (cutL ns lo hi).map V.int := by
  unfold cutV cutL
  rw [List.length_map, List.map_take, List.map_drop]
theorem reps_ints {F : Hp} : ∀ ns : List Int, Reps K F (ns.map V.int) (ns.map D.int)
  | [] => .nil
  | n :: ns => .cons (.int n) (reps_ints ns)
abbrev rSlU (K : PySem.W.Frag) : V → Option Int → Option Int → Hp → VK → Prop := fun x lo hi H Q => rSlL K x lo hi H Q ∨ rSlF K x lo hi H Q ∨ rSlS x lo hi H Q
theorem sl_all {X : Cx} : SlR X (rSlU X.K) := sl_list.or (sl_tupF.or sl_str)
theorem s_sl (lo hi : Option Int) : Op1 K .leaf (fun x H Q => rSlU K x lo hi H Q) (cutD lo hi) := by
  intro F H x d z Q sm hx hf ok
  unfold cutD at hf
  split at hf
  · cases hf
    obtain ⟨p, vs, e1, e2, e3⟩ := hx.lstE sm
    exact .inl ⟨p, vs, e1, .of e2, fun t nt => ok.newLf sm (cut_reps e3 lo hi) nt⟩
  · rename_i ds
    cases hf
    obtain ⟨p, vs, e1, e2, e2', e3⟩ := hx.tupR sm
    refine .inr (.inl ⟨p, vs, e1, e2, fun w => ?_, fun _ t us nt => ok.newT sm (cut_reps e3 lo hi) nt⟩)
    have : cutL ds lo hi = ds := by
      unfold cutL
      rw [← e3.length, w.1, w.2, List.drop_zero, Nat.sub_zero, e3.length, List.take_length]
    rw [this] at ok
    exact ok.here sm (.tup e2' e3)
  · rename_i zz
    cases hf
    refine .inr (.inr ⟨zz, hx.strE.1, asc_line hx.strE.2, ?_⟩)
    have e : cutS zz lo hi = ⟨(cutL zz.cps.toList lo hi).toArray⟩ := by
      unfold cutS cutL
      rw [Array.length_toList] <;> rfl
    rw [e]
    refine ok.here sm (.str _ (asc_sub hx.strE.2 (fun c m => ?_) ?_))
    · exact List.mem_of_mem_drop (List.mem_of_mem_take m)
    · unfold cutL
      rw [List.length_take, List.length_drop]
      show _ ≤ zz.cps.size
      rw [← Array.length_toList]
      omega
  · cases hf
    obtain ⟨p, e1, e2⟩ := hx.scrE sm
    refine .inl ⟨p, _, e1, e2, fun t nt => ?_⟩
    rw [cut_ints]
    exact ok.newLf sm (reps_ints _) nt
  · cases hf
end
section
variable {X : Cx} {ks : List Sh} {W : WX} {e a c : Expr} {es : List Expr} {t ta tc : TE} {m : ME} {pos p2 : Pos} {sh : Sh}
structure EPt (X : Cx) (ks : List Sh) (W : WX) (o : Option Expr) (t : TO) (m : DEnv → R (Option Int)) : Prop where
  pe : PO X o t
  sd : ∀ ρ σ F H fp (Q : Option Int → Hp → Prop) {α : Type} (Ok : R α → Prop) (f : Option Int → DEnv → R α), Rel X.K ks F H ρ σ fp → Ok ((m ρ).bind f) → ¬ Ok .no → (∀ e ρ1, Ok (.ex e ρ1) → OkX (bd X ks W) F H fp σ e ρ1) →
    (∀ o ρ1 F1 H1 fp1, Ok (f o ρ1) → Rel X.K ks F1 H1 ρ1 σ fp1 → Ext F H fp F1 H1 fp1 → Q o H1) → t σ H Q
def mNoPart : DEnv → R (Option Int) := fun ρ => .ok none ρ
def asI : D → DEnv → R (Option Int)
  | .int i, ρ => .ok (some i) ρ
  | _, _ => .no
def mPart (m : ME) : DEnv → R (Option Int) := fun ρ => (m ρ).bind asI
theorem ept_none : EPt X ks W none tNoPart mNoPart := ⟨po_none, fun ρ σ F H fp Q _ Ok f r hok _ _ k => k none ρ F H fp hok r .refl⟩
theorem ept_some (h : EV X ks W e .leaf t m) : EPt X ks W (some e) (tPart t) (mPart m) := by
  refine ⟨po_some h.pe, fun ρ σ F H fp Q α Ok f r hok hn hx k => ?_⟩
  unfold mPart at hok
  rw [bind_assoc] at hok
  refine h.sd.go r (Ok := Ok) hok hn hx fun d ρ1 v F1 H1 fp1 h1 r1 x1 p1 => ?_
  cases d with
  | int i =>
    cases p1
    exact ⟨i, rfl, k (some i) ρ1 F1 H1 fp1 h1 r1 x1⟩
  | _ => exact (hn h1).elim
def mSl (f : Option Int → Option Int → D → Option D) (mo : MO) (l h : DEnv → R (Option Int)) : ME := fun ρ => (mo ρ).bind fun o ρ1 => (l ρ1).bind fun i ρ2 => (h ρ2).bind fun j ρ3 => R.of ((o.get ρ3).bind (f i j)) ρ3
theorem ev_slice {lo hi : Option Expr} {tl th : TO} {ml mh : DEnv → R (Option Int)} {mo : MO} {r : V → Option Int → Option Int → Hp → VK → Prop} {f : Option Int → Option Int → D → Option D} (hr : SlR X r) (hs : ∀ lo hi, Op1 X.K sh (fun x H Q => r x lo hi H Q) (f lo hi)) (ha : EO X ks W a ta mo) (hl : EPt X ks W lo tl ml) (hh : EPt X ks W hi th mh) :
    EV X ks W (.Subscript a (.Slice lo hi none p2) pos) sh (tSl r ta tl th) (mSl f mo ml mh) := by
  refine ⟨pe_slice hr ha.pe hl.pe hh.pe, fun ρ σ F H fp Q r0 hok => ?_⟩
  refine ha.sd.go r0 (Ok := OkE (bd X ks W) sh F H fp σ Q) hok (fun z => z) (fun _ _ z => z) fun x ρ1 v F1 H1 fp1 h1 r1 x1 o1 => ?_
  refine hl.sd ρ1 σ F1 H1 fp1 _ (OkE (bd X ks W) sh F1 H1 fp1 σ Q) _ r1 (h1.ext x1) (fun z => z) (fun _ _ z => z) fun i ρ2 F2 H2 fp2 h2 r2 x2 => ?_
  refine hh.sd ρ2 σ F2 H2 fp2 _ (OkE (bd X ks W) sh F2 H2 fp2 σ Q) _ r2 (h2.ext x2) (fun z => z) (fun _ _ z => z) fun j ρ3 F3 H3 fp3 h3 r3 x3 => ?_
  have o3 := (o1.mono (r1.same x2)).mono (r2.same x3)
  cases e1 : x.get ρ3 with
  | none => rw [e1] at h3; exact (show False from h3).elim
  | some d =>
    cases e2 : f i j d with
    | none => rw [e1, Option.bind_some, e2] at h3; exact (show False from h3).elim
    | some z =>
      rw [e1, Option.bind_some, e2] at h3
      exact hs i j F3 H3 v d z Q r3.sub (o3.vw r3 e1) e2 ((h3.ext x3).done r3)
end
end VL
/-! V6: statements; defs with the guards known; calls; the end. -/
namespace VL
open PySem PySem.Spec L2

inductive Fl where
  | nx | rt (d : D)
abbrev MS := DEnv → R Fl
/-- what is wanted of a statement's result; rsh: what a return hands out; fx: the slots ahead of which none is stored anew -/
def OkS (b : Bd) (rsh : Sh) (fx : Nat) (F H : Hp) (fp : List Addr) (σ : St) (D : Ends) : R Fl → Prop
  | .no => False
  | .ok .nx ρ' => ∀ σ' F' H' fp', Rel b.K b.ks F' H' ρ' σ' fp' → Ext F H fp F' H' fp' → σ'.take fx = σ.take fx → D.nx σ' H'
  | .ok (.rt d) ρ' => ∀ v σ' F' H' fp' fv, Rel b.K b.ks F' H' ρ' σ' fp' → (fp' ++ fv).Nodup → Ext F H fp F' H' (fp' ++ fv) → σ'.take fx = σ.take fx → OR b.K F' H' rsh v d fv → D.rt v H'
  | .ex e ρ' => ∀ cls dx σ' F' H' fp', Rel b.K b.ks F' H' ρ' σ' fp' → Ext F H fp F' H' fp' → σ'.take fx = σ.take fx → ExR b F' e cls dx → b.W cls dx σ' H'
def SndS (b : Bd) (rsh : Sh) (fx : Nat) (t : TS) (m : MS) : Prop := ∀ ρ σ F H fp D, Rel b.K b.ks F H ρ σ fp → OkS b rsh fx F H fp σ D (m ρ) → t D σ H
theorem OkS.ext {b : Bd} {rsh : Sh} {fx : Nat} {F H F1 H1 : Hp} {fp f1 : List Addr} {σ σ1 : St} {D : Ends} (a : Ext F H fp F1 H1 f1) (s : σ1.take fx = σ.take fx) : ∀ {r : R Fl}, OkS b rsh fx F H fp σ D r → OkS b rsh fx F1 H1 f1 σ1 D r
  | .no, h => h
  | .ok .nx ρ', h => fun σ' F' H' fp' r x q => h σ' F' H' fp' r (a.trans x) (q.trans s)
  | .ok (.rt d) ρ', h => fun v σ' F' H' fp' fv r n x q o => h v σ' F' H' fp' fv r n (a.trans x) (q.trans s) o
  | .ex e ρ', h => fun cls dx σ' F' H' fp' r x q o => h cls dx σ' F' H' fp' r (a.trans x) (q.trans s) o
theorem OkS.x {b : Bd} {rsh : Sh} {fx : Nat} {F H : Hp} {fp : List Addr} {σ : St} {D : Ends} {e : Ex} {ρ1 : DEnv} (h : OkS b rsh fx F H fp σ D (.ex e ρ1)) : OkX b F H fp σ e ρ1 := fun cls dx F' H' fp' r x q => h cls dx σ F' H' fp' r x rfl q
structure SV (X : Cx) (ks : List Sh) (W : WX) (rsh : Sh) (fx : Nat) (st : Stmt) (t : TS) (m : MS) : Prop where
  pe : PS X st t
  sd : SndS (bd X ks W) rsh fx t m
structure SVs (X : Cx) (ks : List Sh) (W : WX) (rsh : Sh) (fx : Nat) (sts : List Stmt) (t : TS) (m : MS) : Prop where
  pe : PSs X sts t
  sd : SndS (bd X ks W) rsh fx t m
section
variable {X : Cx} {ks : List Sh} {W : WX} {rsh sh : Sh} {fx : Nat} {st : Stmt} {sts : List Stmt} {e a c : Expr} {es : List Expr} {t u : TS} {te tc : TE} {m n : MS} {me mc : ME} {pos : Pos}
def mNx : MS := fun ρ => .ok .nx ρ
def mSeq (m n : MS) : MS := fun ρ => (m ρ).bind fun f ρ1 => match f with | .nx => n ρ1 | .rt d => .ok (.rt d) ρ1
theorem svs_nil : SVs X ks W rsh fx [] tNext mNx := ⟨pss_nil, fun ρ σ F H fp D r h => h σ F H fp r .refl rfl⟩
theorem snd_seq {b : Bd} (h1 : SndS b rsh fx t m) (h2 : SndS b rsh fx u n) : SndS b rsh fx (tSeq t u) (mSeq m n) := by
  intro ρ σ F H fp D r h
  refine h1 ρ σ F H fp { D with nx := u D } r ?_
  unfold mSeq at h
  cases e1 : m ρ with
  | no => rw [e1] at h; exact h
  | ex x ρ1 => rw [e1] at h; exact h
  | ok f ρ1 =>
    rw [e1] at h
    cases f with
    | rt d => exact h
    | nx => exact fun σ1 F1 H1 fp1 r1 x1 q1 => h2 ρ1 σ1 F1 H1 fp1 D r1 (OkS.ext x1 q1 h)
theorem svs_cons (h1 : SV X ks W rsh fx st t m) (h2 : SVs X ks W rsh fx sts u n) : SVs X ks W rsh fx (st :: sts) (tSeq t u) (mSeq m n) := ⟨pss_cons h1.pe h2.pe, snd_seq h1.sd h2.sd⟩
theorem svs_one (h1 : SV X ks W rsh fx st t m) : SVs X ks W rsh fx [st] t m := ⟨pss_one h1.pe, h1.sd⟩
def mDrop (m : ME) : MS := fun ρ => (m ρ).bind fun _ ρ1 => .ok .nx ρ1
theorem sv_expr (h : EV X ks W e .leaf te me) (hs : swapsWith e none pos.line X.env = pure false := by rfl) : SV X ks W rsh fx (.Expr e pos) (tDrop te) (mDrop me) := by
  refine ⟨ps_expr h.pe hs, fun ρ σ F H fp D r hok => ?_⟩
  refine h.sd.go r (Ok := OkS (bd X ks W) rsh fx F H fp σ D) hok (fun z => z) (fun _ _ z => z.x) fun d ρ1 v F1 H1 fp1 h1 r1 x1 p1 => ?_
  exact h1 σ F1 H1 fp1 r1 x1 rfl
/-- a docstring is dropped by the link; return -/
def mRet (m : ME) : MS := fun ρ => (m ρ).bind fun d ρ1 => .ok (.rt d) ρ1
theorem sv_ret (h : EV X ks W e rsh te me) : SV X ks W rsh fx (.Return (some e) pos) (tRet te) (mRet me) := by
  refine ⟨ps_ret h.pe, fun ρ σ F H fp D r hok => h.sd ρ σ F H fp D.rt r ?_⟩
  unfold mRet at hok
  cases em : me ρ with
  | no => rw [em] at hok; exact hok
  | ex x ρ1 => rw [em] at hok; exact OkS.x hok
  | ok d ρ1 => rw [em] at hok; exact fun v F' H' fp' fv r' nd x o => hok v σ F' H' fp' fv r' nd x rfl o
def mIfS (c : MT) (m n : MS) : MS := fun ρ => (c ρ).bind fun k ρ1 => if k = true then m ρ1 else n ρ1
theorem sv_if {x : Expr} {xs ys : List Stmt} {tA : TT} {mt : MT} (hx : ET X ks W x tA mt) (h1 : SVs X ks W rsh fx xs t m) (h2 : SVs X ks W rsh fx ys u n) : SV X ks W rsh fx (.If x xs ys pos) (tIfS tA t u) (mIfS mt m n) := by
  refine ⟨ps_if hx.pe h1.pe h2.pe, fun ρ σ F H fp D r hok => ?_⟩
  refine hx.sd.go r (Ok := OkS (bd X ks W) rsh fx F H fp σ D) hok (fun z => z) (fun _ _ z => z.x) fun k ρ1 F1 H1 fp1 q1 r1 x1 => ?_
  cases k with
  | true => rw [if_pos rfl] at q1 ⊢; exact h1.sd ρ1 σ F1 H1 fp1 D r1 (q1.ext x1 rfl)
  | false => rw [if_neg Bool.false_ne_true] at q1 ⊢; exact h2.sd ρ1 σ F1 H1 fp1 D r1 (q1.ext x1 rfl)

/-! ### a slot stored -/
theorem Rel.store {K : PySem.W.Frag} {F H : Hp} {ρ : DEnv} {σ : St} {fp fv : List Addr} {v : V} {d : D} {i : Nat} (r : Rel K ks F H ρ σ fp) (o : OR K F H sh v d fv) (nd : (fp ++ fv).Nodup) (hk : ks[i]? = some sh) :
    ∃ gp, Rel K ks F H (ρ.set i (some d)) (σ.set i (some v)) gp ∧ ∀ y ∈ gp, y ∈ fp ++ fv := by
  obtain ⟨g, w, sl⟩ := r.sl.wipe1 i
  have l1 := r.sl.lens
  have hi : i < σ.length := by
    rw [← l1.2, ← l1.1]
    exact (List.getElem?_eq_some_iff.mp hk).1
  have w2 := w.setV i (some v)
  obtain ⟨gp, w3, p⟩ := RelL.join o w2 hk (by rw [List.getElem?_set_self hi])
  refine ⟨gp, ⟨r.sub, ?_, w3⟩, fun y m => ?_⟩
  · refine p.nodup_iff.mpr ?_
    have n2 := List.nodup_append.mp nd
    refine List.nodup_append.mpr ⟨n2.2.1, n2.1.sublist sl, fun y m1 z m2 e => ?_⟩
    exact n2.2.2 z (sl.subset m2) y m1 e.symm
  · rcases List.mem_append.mp (p.subset m) with q | q
    · exact List.mem_append_right _ q
    · exact List.mem_append_left _ (sl.subset q)
theorem take_set {σ : St} {i : Nat} {x : Option V} (h : fx ≤ i) : (σ.set i x).take fx = σ.take fx := by
  rw [List.take_set_of_le] <;> exact h
def mSet (i : Nat) (m : ME) : MS := fun ρ => (m ρ).bind fun d ρ1 => .ok .nx (ρ1.set i (some d))
theorem sv_set {i : Nat} {x : Str} {pos' : Pos} (hk : ks[i]? = some sh) (hf : fx ≤ i) (hN : X.N.Nodup) (hi : X.N[i]? = some x) (hx : Loc X.env.scope x) (h : EV X ks W e sh te me) (hs : swapsWith e (some (.Name x pos')) pos.line X.env = pure false := by rfl)
    (hff : X.fn x = true ∨ X.env.scope.names.lookup x = some .local := by first | exact .inl rfl | exact .inr rfl | assumption) : SV X ks W rsh fx (.Assign [.Name x pos'] e pos) (tAsg te (gName i)) (mSet i me) := by
  refine ⟨ps_set hN hi hx h.pe hs hff, fun ρ σ F H fp D r hok => h.sd ρ σ F H fp _ r ?_⟩
  unfold mSet at hok
  cases em : me ρ with
  | no => rw [em] at hok; exact hok
  | ex y ρ1 => rw [em] at hok; exact OkS.x hok
  | ok d ρ1 =>
    rw [em] at hok
    intro v F' H' fp' fv r' nd x' o
    obtain ⟨gp, r2, sb⟩ := r'.store o nd hk
    exact hok (σ.set i (some v)) F' H' gp r2 (x'.sub sb) (take_set hf)
end
end VL
/-! V7: methods that change an owned slot, stores into it, unpacking, loops. -/
namespace VL
open PySem PySem.Spec L2

/-- the data of a slot -/
def own (ρ : DEnv) (i : Nat) : Option D := (ρ[i]?).bind id
/-- a change of the owned list at p: by the data -/
def MtL (K : PySem.W.Frag) (r : V → List V → Hp → VK → Prop) (f : List D → List D → Option (D × List D)) : Prop :=
  ∀ F H p vs ds xs es z ds' Q, Sub F H → F p = none → H p = some (.lst vs) → Reps K F vs ds → Reps K F xs es → f ds es = some (z, ds') → (∀ v vs', Reps K F vs' ds' → Rep K F v z → Q v (upd H p (.lst vs'))) → r (.ref p) xs H Q
section
variable {K : PySem.W.Frag} {ks : List Sh} {F H : Hp} {ρ : DEnv} {σ : St} {fp : List Addr}
/-- an owned list of a slot, and what stands behind a change of it -/
theorem Rel.ownL {i : Nat} {ds : List D} (r : Rel K ks F H ρ σ fp) (hk : ks[i]? = some (.lst .leaf)) (e : own ρ i = some (.lst ds)) :
    ∃ p vs, σ[i]? = some (some (.ref p)) ∧ F p = none ∧ H p = some (.lst vs) ∧ Reps K F vs ds ∧ ∀ vs' ds', Reps K F vs' ds' → ∃ gp, Rel K ks F (upd H p (.lst vs')) (ρ.set i (some (.lst ds'))) σ gp ∧ Ext F H fp F (upd H p (.lst vs')) gp := by
  obtain ⟨v, f, g, s1, o1, sl, pm⟩ := r.sl.split hk (getE e)
  cases o1 with
  | @lst _ p vs _ fp' nF eH q =>
    obtain ⟨q1, rfl⟩ := q.leafE
    refine ⟨p, vs, s1, nF, eH, q1, fun vs' ds' q' => ?_⟩
    have nd : (p :: g).Nodup := (pm.nodup_iff).mp r.nd
    have pg : p ∉ g := (List.nodup_cons.mp nd).1
    have pin : p ∈ fp := pm.symm.subset (List.mem_cons_self ..)
    have sl2 : RelL K F (upd H p (.lst vs')) ks (ρ.set i none) σ g := sl.frame (fun _ _ x => x) fun a m => ⟨(sl.own a m).1, upd_ne fun z => pg (z ▸ m)⟩
    obtain ⟨gp, r2, p2⟩ := RelL.join (s := .lst .leaf) (f := [p]) (d := .lst ds') (.lst nF upd_same (ORs.ofReps q')) sl2 hk s1
    refine ⟨gp, ⟨sub_updH r.sub nF (by intro _ z; cases z), p2.nodup_iff.mpr nd, r2⟩, ⟨fun a o x n => ?_, fun a m => .inl (pm.symm.subset (p2.subset m))⟩⟩
    · exact ⟨(upd_ne fun (z : a = p) => n (by rw [z]; exact pin)).trans x, rfl⟩
theorem Rel.ownK {i : Nat} {ds : List (Key × D)} (r : Rel K ks F H ρ σ fp) (hk : ks[i]? = some (.dic .leaf)) (e : own ρ i = some (.dK ds)) :
    ∃ p kvs, σ[i]? = some (some (.ref p)) ∧ F p = none ∧ H p = some (.dK kvs) ∧ kvs.map Prod.fst = ds.map Prod.fst ∧ Reps K F (kvs.map Prod.snd) (ds.map Prod.snd) ∧
      ∀ (kvs' : List (Key × V)) (ds' : List (Key × D)), kvs'.map Prod.fst = ds'.map Prod.fst → Reps K F (kvs'.map Prod.snd) (ds'.map Prod.snd) → ∃ gp, Rel K ks F (upd H p (.dK kvs')) (ρ.set i (some (.dK ds'))) σ gp ∧ Ext F H fp F (upd H p (.dK kvs')) gp := by
  obtain ⟨v, f, g, s1, o1, sl, pm⟩ := r.sl.split hk (getE e)
  cases o1 with
  | @dK _ p kvs _ fp' nF eH ek q =>
    obtain ⟨q1, rfl⟩ := q.leafE
    refine ⟨p, kvs, s1, nF, eH, ek, q1, fun kvs' ds' ek' q' => ?_⟩
    have nd : (p :: g).Nodup := (pm.nodup_iff).mp r.nd
    have pg : p ∉ g := (List.nodup_cons.mp nd).1
    have pin : p ∈ fp := pm.symm.subset (List.mem_cons_self ..)
    have sl2 : RelL K F (upd H p (.dK kvs')) ks (ρ.set i none) σ g := sl.frame (fun _ _ x => x) fun a m => ⟨(sl.own a m).1, upd_ne fun z => pg (z ▸ m)⟩
    obtain ⟨gp, r2, p2⟩ := RelL.join (s := .dic .leaf) (f := [p]) (d := .dK ds') (.dK nF upd_same ek' (ORs.ofReps q')) sl2 hk s1
    refine ⟨gp, ⟨sub_updH r.sub nF (by intro _ z; cases z), p2.nodup_iff.mpr nd, r2⟩, ⟨fun a o x n => ?_, fun a m => .inl (pm.symm.subset (p2.subset m))⟩⟩
    · exact ⟨(upd_ne fun (z : a = p) => n (by rw [z]; exact pin)).trans x, rfl⟩
theorem Rel.ownT {i : Nat} {ds : List (List Key × D)} (r : Rel K ks F H ρ σ fp) (hk : ks[i]? = some (.dic .leaf)) (e : own ρ i = some (.dT ds)) :
    ∃ p kvs, σ[i]? = some (some (.ref p)) ∧ F p = none ∧ H p = some (.dT kvs) ∧ kvs.map Prod.fst = ds.map Prod.fst ∧ Reps K F (kvs.map Prod.snd) (ds.map Prod.snd) ∧
      ∀ (kvs' : List (List Key × V)) (ds' : List (List Key × D)), kvs'.map Prod.fst = ds'.map Prod.fst → Reps K F (kvs'.map Prod.snd) (ds'.map Prod.snd) → ∃ gp, Rel K ks F (upd H p (.dT kvs')) (ρ.set i (some (.dT ds'))) σ gp ∧ Ext F H fp F (upd H p (.dT kvs')) gp := by
  obtain ⟨v, f, g, s1, o1, sl, pm⟩ := r.sl.split hk (getE e)
  cases o1 with
  | @dT _ p kvs _ fp' nF eH ek q =>
    obtain ⟨q1, rfl⟩ := q.leafE
    refine ⟨p, kvs, s1, nF, eH, ek, q1, fun kvs' ds' ek' q' => ?_⟩
    have nd : (p :: g).Nodup := (pm.nodup_iff).mp r.nd
    have pg : p ∉ g := (List.nodup_cons.mp nd).1
    have pin : p ∈ fp := pm.symm.subset (List.mem_cons_self ..)
    have sl2 : RelL K F (upd H p (.dT kvs')) ks (ρ.set i none) σ g := sl.frame (fun _ _ x => x) fun a m => ⟨(sl.own a m).1, upd_ne fun z => pg (z ▸ m)⟩
    obtain ⟨gp, r2, p2⟩ := RelL.join (s := .dic .leaf) (f := [p]) (d := .dT ds') (.dT nF upd_same ek' (ORs.ofReps q')) sl2 hk s1
    refine ⟨gp, ⟨sub_updH r.sub nF (by intro _ z; cases z), p2.nodup_iff.mpr nd, r2⟩, ⟨fun a o x n => ?_, fun a m => .inl (pm.symm.subset (p2.subset m))⟩⟩
    · exact ⟨(upd_ne fun (z : a = p) => n (by rw [z]; exact pin)).trans x, rfl⟩
end
/-- x.method(args), x an owned list at slot i -/
def mMtL (i : Nat) (f : List D → List D → Option (D × List D)) (args : MA) : ME := fun ρ => match own ρ i with
  | some (.lst _) => (args ρ).bind fun es ρ1 => (match own ρ1 i with
    | some (.lst ds) => (match f ds es with | some (z, ds') => .ok z (ρ1.set i (some (.lst ds'))) | none => .no)
    | _ => .no)
  | _ => .no
section
variable {X : Cx} {ks : List Sh} {W : WX} {e : Expr} {es : List Expr} {i : Nat} {x name : Str} {id : String} {p apos cpos : Pos} {r : V → List V → Hp → VK → Prop} {f : List D → List D → Option (D × List D)}
theorem snd_mtL {b : Bd} {t : TA} {args : MA} (hk : b.ks[i]? = some (.lst .leaf)) (hr : MtL b.K r f) (ha : SndA b t args) : SndE b .leaf (tBM b.K "list" r (tVar i) t) (mMtL i f args) := by
  intro ρ σ F H fp Q r0 hok
  unfold mMtL at hok
  split at hok
  · rename_i ds0 e0
    obtain ⟨p, vs, s1, nF, eH, q1, _⟩ := r0.ownL hk e0
    refine ⟨.ref p, s1, .inl ⟨rfl, _, .of eH⟩, ?_⟩
    refine ha.go r0 (Ok := OkE b .leaf F H fp σ Q) hok (fun z => z) (fun _ _ z => z) fun es ρ1 xs F1 H1 fp1 h1 r1 x1 p1 => ?_
    split at h1
    · rename_i ds e1
      split at h1
      · rename_i z ds' ef
        obtain ⟨p', vs', s2, nF', eH', q2, step⟩ := r1.ownL hk e1
        rw [s1] at s2
        cases s2
        refine hr F1 H1 p vs' ds xs es z ds' Q r1.sub nF' eH' q2 p1 ef fun v ws q3 rv => ?_
        obtain ⟨gp, r2, x2⟩ := step ws ds' q3
        exact (h1.ext x1) v F1 _ gp [] r2 (by rw [List.append_nil]; exact r2.nd) (by rw [List.append_nil]; exact x2) (.leaf rv)
      · exact (show False from h1).elim
    · exact (show False from h1).elim
  · exact (show False from hok).elim
theorem ev_mtL {t : TA} {args : MA} (i : Nat) (slot : Slot "list" name id) (hty : typeOf (.builtin id) = pure (.type "method_descriptor")) (rule : MtM X id r) (hr : MtL X.K r f) (ha : EA X ks W (e :: es) t args) (hk : ks[i]? = some (.lst .leaf) := by rfl) (hN : X.N[i]? = some x := by rfl)
    (hv : Vis X.env.scope x := by first | exact Or.inl rfl | exact Or.inr (Or.inl rfl) | exact Or.inr (Or.inr rfl)) (hd : (x == ("__debug__" : Str)) = false := by decide) (hcd : (x == ("__classdict__" : Str)) = false := by decide)
    (hbase : attributeBase (.Name x p) name X.env (eval (.Name x p) X.env) = eval (.Name x p) X.env := by rfl)
    (hfew : ((backTo cpos (starEach (e :: es) X.env)).all (fun x => !x.1) && (backToKw cpos (keywordEach [] X.env)).all (fun x => x.1.isSome)
      && decide ((e :: es).length + ([] : List Keyword).length + (if ([] : List Keyword).isEmpty then 0 else 1) < 30)) = true := by rfl)
    (hline : (apos.endLine == cpos.line) = true := by rfl) (hs : starEach (e :: es) X.env = (false, eval e X.env) :: starEach es X.env := by rfl) (hplain : (backTo cpos (starEach es X.env)).any (·.1) = false := by rfl) :
    EV X ks W (.Call (.Attribute (.Name x p) name apos) (e :: es) [] cpos) .leaf (tBM X.K "list" r (tVar i) t) (mMtL i f args) :=
  ⟨pe_bm PySem.F.plainAttrs_list slot hty rule (pe_var hN hv hd hcd) ha.pe hbase hfew hline hs hplain, snd_mtL (b := bd X ks W) hk hr ha.sd⟩
theorem ev_mtL0 (i : Nat) (slot : Slot "list" name id) (hty : typeOf (.builtin id) = pure (.type "method_descriptor")) (rule : MtM X id r) (hr : MtL X.K r f) (hk : ks[i]? = some (.lst .leaf) := by rfl) (hN : X.N[i]? = some x := by rfl)
    (hv : Vis X.env.scope x := by first | exact Or.inl rfl | exact Or.inr (Or.inl rfl) | exact Or.inr (Or.inr rfl)) (hd : (x == ("__debug__" : Str)) = false := by decide) (hcd : (x == ("__classdict__" : Str)) = false := by decide)
    (hbase : attributeBase (.Name x p) name X.env (eval (.Name x p) X.env) = eval (.Name x p) X.env := by rfl) (hline : (apos.endLine == cpos.line) = true := by rfl) :
    EV X ks W (.Call (.Attribute (.Name x p) name apos) [] [] cpos) .leaf (tBM0 X.K "list" r (tVar i)) (mMtL i f mNil) :=
  ⟨pe_bm0 PySem.F.plainAttrs_list slot hty rule (pe_var hN hv hd hcd) hbase hline, snd_mtL (b := bd X ks W) (t := tNil) hk hr (fun ρ σ F H fp Q r hok => hok [] F H fp r .refl .nil)⟩
end
section
variable {K : PySem.W.Frag}
def appendD : List D → List D → Option (D × List D)
  | ds, [d] => if ds.length < 16777216 then some (.non, ds ++ [d]) else none
  | _, _ => none
theorem m_append : MtL K rAppend appendD := by
  intro F H p vs ds xs es z ds' Q sm nF eH q1 q2 hf k
  unfold appendD at hf
  split at hf
  · rename_i d
    cases q2 with
    | cons h t =>
      cases t
      split at hf
      · rename_i c
        cases hf
        exact ⟨p, vs, _, rfl, rfl, eH, by rw [q1.length, sizeLine_eq]; exact c, k .non _ (q1.append (.cons h .nil)) .non⟩
      · cases hf
  · cases hf
def popD : List D → List D → Option (D × List D)
  | ds, [] => (ds[ds.length - 1]?).bind fun d => some (d, ds.dropLast)
  | ds, [.int i] => if -(2 ^ 63) ≤ i ∧ i < 2 ^ 63 then (seqIndex? i ds.length).bind fun k => (ds[k]?).bind fun d => some (d, ds.eraseIdx k) else none
  | _, _ => none
theorem mt_popU {X : Cx} : MtM X "list.pop" (fun x vs H Q => rPop x vs H Q ∨ rPopAt x vs H Q) := by
  intro pins s σ H x xs v us Q I rx rs q
  rcases q with q | q
  · exact mt_pop pins s σ H x xs v us Q I rx rs q
  · exact mt_popAt pins s σ H x xs v us Q I rx rs q
theorem m_pop : MtL K (fun x vs H Q => rPop x vs H Q ∨ rPopAt x vs H Q) popD := by
  intro F H p vs ds xs es z ds' Q sm nF eH q1 q2 hf k
  unfold popD at hf
  split at hf
  · cases q2
    cases e : ds[ds.length - 1]? with
    | none => rw [e] at hf; cases hf
    | some d =>
      rw [e] at hf
      cases hf
      obtain ⟨w, w1, w2⟩ := q1.get e
      exact .inl ⟨p, vs, w, rfl, rfl, eH, by rw [q1.length]; exact w1, k w _ q1.dropLast w2⟩
  · rename_i i
    cases q2 with
    | cons h t =>
      cases t
      cases h
      split at hf
      · rename_i c
        cases e : seqIndex? i ds.length with
        | none => rw [e] at hf; cases hf
        | some j =>
          cases e2 : ds[j]? with
          | none => rw [e, Option.bind_some, e2] at hf; cases hf
          | some d =>
            rw [e, Option.bind_some, e2] at hf
            cases hf
            obtain ⟨w, w1, w2⟩ := q1.get e2
            exact .inr ⟨p, vs, i, j, w, rfl, rfl, eH, c.1, c.2, by rw [q1.length]; exact e, w1, k w _ (q1.eraseIdx j) w2⟩
      · cases hf
  · cases hf
end

/-! ### d[k] = v, xs[i] = v -/
def putD (d k v : D) : Option D := match d with
  | .dK kvs => if kvs.length < 16777216 then (keyK k).bind fun q => some (.dK (put kvs q v)) else none
  | .dT kvs => if kvs.length < 16777216 then (keyT k).bind fun q => some (.dT (put kvs q v)) else none
  | _ => none
def mPut (i : Nat) (mk mv : ME) : MS := fun ρ => (mv ρ).bind fun v ρ1 => (R.of (own ρ1 i) ρ1).bind fun _ _ => (mk ρ1).bind fun k ρ2 => (R.of ((own ρ2 i).bind fun d => putD d k v) ρ2).bind fun d' ρ3 => .ok .nx (ρ3.set i (some d'))
section
variable {X : Cx} {ks : List Sh} {W : WX} {rsh : Sh} {fx : Nat} {e c value : Expr} {i : Nat} {x : Str} {p pos pos' : Pos} {te tc tv : TE} {me mc mv : ME}
theorem sv_dput (i : Nat) (hu : X.A.units + 1 < cLine) (hc : EV X ks W c .leaf tc mc) (hv : EV X ks W value .leaf tv mv) (hk : ks[i]? = some (.dic .leaf) := by rfl) (hN : X.N[i]? = some x := by rfl)
    (hvi : Vis X.env.scope x := by first | exact Or.inl rfl | exact Or.inr (Or.inl rfl) | exact Or.inr (Or.inr rfl)) (hd : (x == ("__debug__" : Str)) = false := by decide) (hcd : (x == ("__classdict__" : Str)) = false := by decide)
    (hs : swapsWith value (some (.Subscript (.Name x p) c pos')) pos.line X.env = pure false := by rfl) : SV X ks W rsh fx (.Assign [.Subscript (.Name x p) c pos'] value pos) (sDPut (tVar i) tc tv) (mPut i mc mv) := by
  refine ⟨ps_dput hu (pe_var hN hvi hd hcd) hc.pe hv.pe hs, fun ρ σ F H fp D r hok => ?_⟩
  unfold mPut at hok
  refine hv.sd.go r (Ok := OkS (bd X ks W) rsh fx F H fp σ D) hok (fun z => z) (fun _ _ z => z.x) fun w ρ1 v F1 H1 fp1 h1 r1 x1 p1 => ?_
  cases e1 : own ρ1 i with
  | none => rw [e1] at h1; exact (show False from h1).elim
  | some d1 =>
    rw [e1] at h1
    obtain ⟨v0, f0, g0, s1, o1, _, _⟩ := r1.sl.split hk (getE e1)
    refine ⟨v0, s1, ?_⟩
    refine hc.sd.go r1 (Ok := OkS (bd X ks W) rsh fx F1 H1 fp1 σ D) (h1.ext x1 rfl) (fun z => z) (fun _ _ z => z.x) fun k ρ2 u F2 H2 fp2 h2 r2 x2 p2 => ?_
    have p1' := p1.mono (r1.same x2)
    cases e2 : own ρ2 i with
    | none => rw [e2] at h2; exact (show False from h2).elim
    | some d2 =>
      cases e3 : putD d2 k w with
      | none => rw [e2, Option.bind_some, e3] at h2; exact (show False from h2).elim
      | some d3 =>
        rw [e2, Option.bind_some, e3] at h2
        unfold putD at e3
        split at e3
        · rename_i kvs
          split at e3
          · rename_i cl
            cases e4 : keyK k with
            | none => rw [e4] at e3; cases e3
            | some q =>
              rw [e4] at e3
              cases e3
              obtain ⟨a, kv, s2, nF, eH, ek, rk, step⟩ := r2.ownK hk e2
              rw [s1] at s2
              cases s2
              obtain ⟨gp, r3, x3⟩ := step _ _ (put_keys q v w ek) (put_reps q p1' ek rk)
              refine ⟨a, _, rfl, ?_, (h2.ext x2 rfl) σ F2 _ gp r3 x3 rfl⟩
              rw [keyKE (F := F2) (H := F2) (.rep p2) e4]
              exact DPut.k eH (by rw [put_len q v w ek, sizeLine_eq]; exact cl)
          · cases e3
        · rename_i kvs
          split at e3
          · rename_i cl
            cases e4 : keyT k with
            | none => rw [e4] at e3; cases e3
            | some q =>
              rw [e4] at e3
              cases e3
              obtain ⟨a, kv, s2, nF, eH, ek, rk, step⟩ := r2.ownT hk e2
              rw [s1] at s2
              cases s2
              obtain ⟨gp, r3, x3⟩ := step _ _ (put_keys q v w ek) (put_reps q p1' ek rk)
              obtain ⟨bb, b1, b2⟩ := keyTE r2.sub (.rep p2) e4
              refine ⟨a, _, rfl, ?_, (h2.ext x2 rfl) σ F2 _ gp r3 x3 rfl⟩
              rw [b1]
              exact DPut.t eH b2 (by rw [put_len q v w ek, sizeLine_eq]; exact cl)
          · cases e3
        · cases e3
end
end VL
/-! V8: what is walked, targets, for, while, comprehensions. -/
namespace VL
open PySem PySem.Spec L2

/-- the iterator J yields the data ds, whatever F grows to -/
def Walks (K : PySem.W.Frag) (J : It) (ds : List D) (F0 : Hp) : Prop :=
  ∀ i F H, Same F0 F → Sub F H → (∀ d, ds[i]? = some d → J.go i H ∧ ∀ x H', J.yld i H x H' → ∃ F', Alc F H F' H' ∧ Rep K F' x d) ∧ (ds.length ≤ i → J.stop i H)
structure IV (X : Cx) (ks : List Sh) (W : WX) (tg e : Expr) (wi : TI) (m : MA) : Prop where
  pe : PI X tg e wi
  sd : ∀ ρ σ F H fp (Q : It → Hp → Prop) {α : Type} (Ok : R α → Prop) (f : List D → DEnv → R α), Rel X.K ks F H ρ σ fp → Ok ((m ρ).bind f) → ¬ Ok .no → (∀ e ρ1, Ok (.ex e ρ1) → OkX (bd X ks W) F H fp σ e ρ1) →
    (∀ ds ρ1 J F1 H1 fp1, Ok (f ds ρ1) → Rel X.K ks F1 H1 ρ1 σ fp1 → Ext F H fp F1 H1 fp1 → Walks X.K J ds F1 → Q J H1) → wi σ H Q
theorem walks_list {K : PySem.W.Frag} {F0 : Hp} {a : Addr} {vs : List V} {ds : List D} (e : F0 a = some (.lst vs)) (r : Reps K F0 vs ds) : Walks K (Itl K a) ds F0 := by
  intro i F H s1 s2
  have q : SqL K H a vs := .of (s2 _ _ (s1 _ _ e))
  have r' := r.mono s1
  refine ⟨fun d hd => ?_, fun hl => ⟨vs, q, by rw [r.length]; exact hl⟩⟩
  obtain ⟨v, v1, v2⟩ := r'.get hd
  refine ⟨⟨vs, v, q, v1⟩, fun x H' ⟨h1, h2⟩ => ?_⟩
  subst h1
  have := (h2 vs q).symm.trans v1
  cases this
  exact ⟨F, .refl s2, v2⟩
theorem same_sqT {K : PySem.W.Frag} {F F' : Hp} {a : Addr} {xs : List V} (s : Same F F') (h : SqT K F a xs) : SqT K F' a xs := by
  rcases h with (h | ⟨o, h⟩) | h
  · exact .inl (.inl (s _ _ h))
  · exact .inl (.inr ⟨o, s _ _ h⟩)
  · exact .inr h
theorem walks_tup {K : PySem.W.Frag} {F0 : Hp} {a : Addr} {vs : List V} {ds : List D} (e : SqT K F0 a vs) (r : Reps K F0 vs ds) : Walks K (Itt K a) ds F0 := by
  intro i F H s1 s2
  have q : SqT K H a vs := same_sqT s2.sm (same_sqT s1 e)
  have r' := r.mono s1
  refine ⟨fun d hd => ?_, fun hl => ⟨vs, q, by rw [r.length]; exact hl⟩⟩
  obtain ⟨v, v1, v2⟩ := r'.get hd
  refine ⟨⟨vs, v, q, v1⟩, fun x H' ⟨h1, h2⟩ => ?_⟩
  subst h1
  have := (h2 vs q).symm.trans v1
  cases this
  exact ⟨F, .refl s2, v2⟩
def rangeD (lo : Int) (n : Nat) : List D := (List.range n).map fun i => .int (lo + (i : Nat))
theorem walks_rng {K : PySem.W.Frag} {F0 : Hp} {lo : Int} {n : Nat} : Walks K (Itr lo n) (rangeD lo n) F0 := by
  intro i F H s1 s2
  have hl : (rangeD lo n).length = n := by simp [rangeD]
  refine ⟨fun d hd => ?_, fun h => by rw [hl] at h; exact h⟩
  have hi : i < n := by
    have := (List.getElem?_eq_some_iff.mp hd).1
    rw [hl] at this; exact this
  have e : d = .int (lo + (i : Nat)) := by
    simp [rangeD, hi] at hd
    exact hd.symm
  subst e
  exact ⟨hi, fun x H' ⟨h1, h2⟩ => by subst h1; subst h2; exact ⟨F, .refl s2, .int _⟩⟩
def signs (x : Str) : List D := x.cps.toList.map fun c => .str ⟨#[c]⟩
theorem walks_str {K : PySem.W.Frag} {F0 : Hp} {x : Str} (ha : asc x = true) : Walks K (Its x) (signs x) F0 := by
  intro i F H s1 s2
  have hl : (signs x).length = x.cps.size := by simp [signs]
  refine ⟨fun d hd => ?_, fun h => by rw [hl] at h; exact h⟩
  have hi : i < x.cps.size := by
    have := (List.getElem?_eq_some_iff.mp hd).1
    rw [hl] at this; exact this
  refine ⟨hi, fun v H' ⟨h1, c, h2, h3⟩ => ?_⟩
  subst h1 h3
  have h2' : x.cps.toList[i]? = some c := by rw [Array.getElem?_toList]; exact h2
  have e : d = .str ⟨#[c]⟩ := by
    unfold signs at hd
    rw [List.getElem?_map, h2'] at hd
    exact (Option.some.inj hd).symm
  subst e
  exact ⟨F, .refl s2, .str _ (asc_one ha (List.mem_of_getElem? h2'))⟩
section
variable {X : Cx} {ks : List Sh} {W : WX} {tg e a c : Expr} {te tc : TE} {me mc : ME} {p pos : Pos}
def asL : D → DEnv → R (List D)
  | .lst ds, ρ => .ok ds ρ
  | _, _ => .no
def asT : D → DEnv → R (List D)
  | .tup ds, ρ => .ok ds ρ
  | .key ks, ρ => .ok (ks.map keyD) ρ
  | _, _ => .no
def asS : D → DEnv → R (List D)
  | .str x, ρ => .ok (signs x) ρ
  | _, _ => .no
theorem iv_list (h : EV X ks W e .leaf te me) : IV X ks W tg e (iList X.K te) (fun ρ => (me ρ).bind asL) := by
  refine ⟨pi_list h.pe, fun ρ σ F H fp Q α Ok f r hok hn hx k => ?_⟩
  rw [bind_assoc] at hok
  refine h.sd.go r (Ok := Ok) hok hn hx fun d ρ1 v F1 H1 fp1 h1 r1 x1 p1 => ?_
  cases d with
  | lst ds =>
    cases p1 with
    | lst q1 q2 => exact ⟨_, rfl, ⟨_, .of (r1.sub _ _ q1)⟩, k ds ρ1 _ F1 H1 fp1 h1 r1 x1 (walks_list q1 q2)⟩
  | _ => exact (hn h1).elim
theorem iv_tup (h : EV X ks W e .leaf te me) : IV X ks W tg e (iTup X.K te) (fun ρ => (me ρ).bind asT) := by
  refine ⟨pi_tup h.pe, fun ρ σ F H fp Q α Ok f r hok hn hx k => ?_⟩
  rw [bind_assoc] at hok
  refine h.sd.go r (Ok := Ok) hok hn hx fun d ρ1 v F1 H1 fp1 h1 r1 x1 p1 => ?_
  cases d with
  | tup ds =>
    cases p1 with
    | tup q1 q2 => exact ⟨_, rfl, ⟨_, (q1.mono r1.sub.sm).sq X.K⟩, k ds ρ1 _ F1 H1 fp1 h1 r1 x1 (walks_tup (q1.sq X.K) q2)⟩
  | key ks =>
    cases p1 with
    | key q1 q2 => exact ⟨_, rfl, ⟨_, .of (r1.sub _ _ q1)⟩, k _ ρ1 _ F1 H1 fp1 h1 r1 x1 (walks_tup (.of q1) (reps_keys ks q2))⟩
  | _ => exact (hn h1).elim
theorem iv_str (h : EV X ks W e .leaf te me) : IV X ks W tg e (iStr te) (fun ρ => (me ρ).bind asS) := by
  refine ⟨pi_str h.pe, fun ρ σ F H fp Q α Ok f r hok hn hx k => ?_⟩
  rw [bind_assoc] at hok
  refine h.sd.go r (Ok := Ok) hok hn hx fun d ρ1 v F1 H1 fp1 h1 r1 x1 p1 => ?_
  cases d with
  | str x =>
    cases p1 with
    | str _ q => exact ⟨x, rfl, k _ ρ1 _ F1 H1 fp1 h1 r1 x1 (walks_str q)⟩
  | _ => exact (hn h1).elim
def mRng1 : List D → DEnv → R (List D)
  | [.int j], ρ => if -1000000 ≤ j ∧ j ≤ 1000000 then .ok (rangeD 0 j.toNat) ρ else .no
  | _, _ => .no
def mRng2 : List D → DEnv → R (List D)
  | [.int i, .int j], ρ => if -1000000 ≤ i ∧ i ≤ 1000000 ∧ -1000000 ≤ j ∧ j ≤ 1000000 then .ok (rangeD i (j - i).toNat) ρ else .no
  | _, _ => .no
theorem iv_rng1 {t : TA} {ma : MA} (ha : EA X ks W [a] t ma) (hm : X.mg "range" = none) (hg : Gl X "range" := by rfl) (hs : starEach [a] X.env = [(false, eval a X.env)] := by rfl) : IV X ks W tg (.Call (.Name "range" p) [a] [] pos) (iRng1 t) (fun ρ => (ma ρ).bind mRng1) := by
  refine ⟨pi_range1 hg hm ha.pe hs, fun ρ σ F H fp Q α Ok f r hok hn hx k => ?_⟩
  rw [bind_assoc] at hok
  refine ha.sd.go r (Ok := Ok) hok hn hx fun ds ρ1 vs F1 H1 fp1 h1 r1 x1 p1 => ?_
  unfold mRng1 at h1
  split at h1
  · rename_i j
    cases p1 with
    | cons q t =>
      cases q
      cases t
      split at h1
      · exact ⟨j, rfl, by omega, by omega, k _ ρ1 _ F1 H1 fp1 h1 r1 x1 walks_rng⟩
      · exact (hn h1).elim
  · exact (hn h1).elim
theorem iv_rng2 {t : TA} {ma : MA} (ha : EA X ks W [a, c] t ma) (hm : X.mg "range" = none) (hg : Gl X "range" := by rfl) (hs : starEach [a, c] X.env = [(false, eval a X.env), (false, eval c X.env)] := by rfl) (hs2 : starEach [c] X.env = [(false, eval c X.env)] := by rfl) : IV X ks W tg (.Call (.Name "range" p) [a, c] [] pos) (iRng2 t) (fun ρ => (ma ρ).bind mRng2) := by
  refine ⟨pi_range2 hg hm ha.pe hs hs2, fun ρ σ F H fp Q α Ok f r hok hn hx k => ?_⟩
  rw [bind_assoc] at hok
  refine ha.sd.go r (Ok := Ok) hok hn hx fun ds ρ1 vs F1 H1 fp1 h1 r1 x1 p1 => ?_
  unfold mRng2 at h1
  split at h1
  · rename_i i j
    cases p1 with
    | cons q t =>
      cases q
      cases t with
      | cons q t =>
        cases q
        cases t
        split at h1
        · exact ⟨i, j, rfl, ⟨by omega, by omega, by omega, by omega⟩, k _ ρ1 _ F1 H1 fp1 h1 r1 x1 walks_rng⟩
        · exact (hn h1).elim
  · exact (hn h1).elim
end

/-! ### targets -/
/-- what a store leaves of the slots -/
structure TRel (T : St → St → Prop) : Prop where
  rfl' : ∀ σ, T σ σ
  tr : ∀ a b c, T a b → T b c → T a c
def Tk (fx : Nat) : St → St → Prop := fun σ' σ => σ'.take fx = σ.take fx
theorem tk_rel (fx : Nat) : TRel (Tk fx) := ⟨fun _ => rfl, fun _ _ _ h k => Eq.trans h k⟩
theorem tk_set {fx i : Nat} (h : fx ≤ i) (σ : St) (x : Option V) : Tk fx (σ.set i x) σ := take_set h
structure GV (X : Cx) (ks : List Sh) (T : St → St → Prop) (tg : Expr) (g : TG) (m : D → DEnv → Option DEnv) : Prop where
  pe : PG X tg g
  sd : ∀ d v ρ σ F H fp ρ' (Q : St → Hp → Prop), Rel X.K ks F H ρ σ fp → Rep X.K F v d → m d ρ = some ρ' → (∀ σ' gp, Rel X.K ks F H ρ' σ' gp → (∀ y ∈ gp, y ∈ fp) → T σ' σ → Q σ' H) → g v σ H Q
structure GVs (X : Cx) (ks : List Sh) (T : St → St → Prop) (ts : List Expr) (g : TGs) (m : List D → DEnv → Option DEnv) : Prop where
  pe : PGs X ts g
  sd : ∀ ds vs ρ σ F H fp ρ' (Q : St → Hp → Prop), Rel X.K ks F H ρ σ fp → Reps X.K F vs ds → m ds ρ = some ρ' → (∀ σ' gp, Rel X.K ks F H ρ' σ' gp → (∀ y ∈ gp, y ∈ fp) → T σ' σ → Q σ' H) → g vs σ H Q
def kName (i : Nat) : D → DEnv → Option DEnv := fun d ρ => some (ρ.set i (some d))
def kNil : List D → DEnv → Option DEnv
  | [], ρ => some ρ
  | _, _ => none
def kCons (m : D → DEnv → Option DEnv) (n : List D → DEnv → Option DEnv) : List D → DEnv → Option DEnv
  | d :: ds, ρ => (m d ρ).bind fun ρ1 => n ds ρ1
  | [], _ => none
def kTup' (k : Nat) (n : List D → DEnv → Option DEnv) : D → DEnv → Option DEnv
  | .tup ds, ρ => if ds.length = k then n ds ρ else none
  | .key ks, ρ => if ks.length = k then n (ks.map keyD) ρ else none
  | _, _ => none
section
variable {X : Cx} {ks : List Sh} {T : St → St → Prop} {tg : Expr} {ts : List Expr} {g : TG} {gs : TGs} {pos : Pos}
theorem gv_name {i : Nat} {x : Str} (hN : X.N.Nodup) (hi : X.N[i]? = some x) (hx : Loc X.env.scope x) (hk : ks[i]? = some .leaf) (hf : ∀ σ x, T (σ.set i x) σ) (hff : X.fn x = true ∨ X.env.scope.names.lookup x = some .local := by first | exact .inl rfl | exact .inr rfl | assumption) : GV X ks T (.Name x pos) (gName i) (kName i) := by
  refine ⟨pg_name hN hi hx hff, fun d v ρ σ F H fp ρ' Q r rp e k => ?_⟩
  cases e
  obtain ⟨gp, r2, sb⟩ := r.store (fv := []) (.leaf rp) (by rw [List.append_nil]; exact r.nd) hk
  exact k _ gp r2 (fun y m => by have := sb y m; rwa [List.append_nil] at this) (hf _ _)
theorem gvs_nil (hT : TRel T) : GVs X ks T [] gNil kNil := by
  refine ⟨pgs_nil, fun ds vs ρ σ F H fp ρ' Q r rp e k => ?_⟩
  cases rp with
  | nil => cases e; exact ⟨rfl, k σ fp r (fun _ m => m) (hT.rfl' σ)⟩
  | cons _ _ => cases e
theorem gvs_cons (hT : TRel T) {m : D → DEnv → Option DEnv} {n : List D → DEnv → Option DEnv} (h1 : GV X ks T tg g m) (h2 : GVs X ks T ts gs n) (hs : (assignEach (tg :: ts) X.env).map (·.2) = assign tg X.env :: (assignEach ts X.env).map (·.2) := by rfl) : GVs X ks T (tg :: ts) (gCons g gs) (kCons m n) := by
  refine ⟨pgs_cons h1.pe h2.pe hs, fun ds vs ρ σ F H fp ρ' Q r rp e k => ?_⟩
  cases rp with
  | nil => cases e
  | @cons v d vs' ds' p t =>
    have e' : (m d ρ).bind (fun ρ1 => n ds' ρ1) = some ρ' := e
    cases e1 : m d ρ with
    | none => rw [e1] at e'; cases e'
    | some ρ1 =>
      rw [e1] at e'
      refine ⟨v, vs', rfl, h1.sd d v ρ σ F H fp ρ1 _ r p e1 fun σ1 g1 r1 s1 q1 => ?_⟩
      exact h2.sd ds' vs' ρ1 σ1 F H g1 ρ' Q r1 t e' fun σ2 g2 r2 s2 q2 => k σ2 g2 r2 (fun y m => s1 y (s2 y m)) (hT.tr _ _ _ q2 q1)
theorem gv_tup {n : Nat} {k : Nat} {m : List D → DEnv → Option DEnv} (hc : X.calm = true) (h : GVs X ks T ts gs m) (hn : (assignEach ts X.env).length = n := by rfl) (hst : (assignEach ts X.env).findIdx? (·.1) = none := by rfl) : GV X ks T (.Tuple ts k pos) (gTup X.K n gs) (kTup' n m) := by
  refine ⟨pg_tup hc h.pe hn hst, fun d v ρ σ F H fp ρ' Q r rp e kk => ?_⟩
  cases d with
  | tup ds =>
    cases rp with
    | tup q1 q2 =>
      have e' : (if ds.length = n then m ds ρ else none) = some ρ' := e
      by_cases c : ds.length = n
      · rw [if_pos c] at e'
        exact ⟨_, _, rfl, (q1.mono r.sub.sm).sq X.K, by rw [q2.length]; exact c, h.sd ds _ ρ σ F H fp ρ' Q r q2 e' kk⟩
      · rw [if_neg c] at e'; cases e'
  | key ys =>
    cases rp with
    | key q1 q2 =>
      have e' : (if ys.length = n then m (ys.map keyD) ρ else none) = some ρ' := e
      by_cases c : ys.length = n
      · rw [if_pos c] at e'
        exact ⟨_, _, rfl, .of (r.sub _ _ q1), by rw [List.length_map]; exact c, h.sd _ _ ρ σ F H fp ρ' Q r (reps_keys ys q2) e' kk⟩
      · rw [if_neg c] at e'; cases e'
  | _ => cases e
end
/-! ### target = value -/
def mAsg (k : D → DEnv → Option DEnv) (m : ME) : MS := fun ρ => (m ρ).bind fun d ρ1 => match k d ρ1 with | some ρ2 => .ok .nx ρ2 | none => .no
section
variable {X : Cx} {ks : List Sh} {W : WX} {rsh : Sh} {fx : Nat} {tg e : Expr} {te : TE} {me : ME} {g : TG} {pos : Pos} {k : D → DEnv → Option DEnv}
theorem sv_asg (h : EV X ks W e .leaf te me) (hg : GV X ks (Tk fx) tg g k) (hs : swapsWithSole [tg] e pos.line X.env = pure false := by rfl) (hw : swappedStores [tg] e X.env = pure none := by rfl)
    (h1 : (assignEach [tg] X.env).map (·.2) = [assign tg X.env] := by rfl) : SV X ks W rsh fx (.Assign [tg] e pos) (tAsg te g) (mAsg k me) := by
  refine ⟨ps_asg h.pe hg.pe hs hw h1, fun ρ σ F H fp D r hok => ?_⟩
  refine h.sd.go r (Ok := OkS (bd X ks W) rsh fx F H fp σ D) hok (fun z => z) (fun _ _ z => z.x) fun d ρ1 v F1 H1 fp1 q1 r1 x1 p1 => ?_
  cases e1 : k d ρ1 with
  | none => rw [e1] at q1; exact (show False from q1).elim
  | some ρ2 =>
    rw [e1] at q1
    exact hg.sd d v ρ1 σ F1 H1 fp1 ρ2 _ r1 p1 e1 fun σ2 g2 r2 s2 q2 => q1 σ2 F1 H1 g2 r2 (x1.sub s2) q2
end

/-! ### for -/
def mFor (k : D → DEnv → Option DEnv) (body : MS) : List D → MS
  | [], ρ => .ok .nx ρ
  | d :: ds, ρ => match k d ρ with
    | none => .no
    | some ρ1 => (body ρ1).bind fun f ρ2 => match f with | .nx => mFor k body ds ρ2 | .rt z => .ok (.rt z) ρ2
section
variable {X : Cx} {ks : List Sh} {W : WX} {rsh : Sh} {fx : Nat} {tg iter c : Expr} {body : List Stmt} {wi : TI} {g : TG} {tb : TS} {ma : MA} {k : D → DEnv → Option DEnv} {mb : MS} {pos : Pos}
theorem sv_for (hp : PassesOwn (model X.prog X.w) X.A X.env X.xe) (hc : X.calm = true) (hi : IV X ks W tg iter wi ma) (hg : GV X ks (Tk fx) tg g k) (hb : SVs X ks W rsh fx body tb mb)
    (hs : ∀ x, foldedSetIterable iter X.env x = pure x := by intro _; rfl) : SV X ks W rsh fx (.For tg iter body [] pos) (tFor wi g tb) (fun ρ => (ma ρ).bind fun ds ρ1 => mFor k mb ds ρ1) := by
  refine ⟨ps_for hp hc hi.pe hg.pe hb.pe hs, fun ρ σ F H fp D r hok => ?_⟩
  refine hi.sd ρ σ F H fp _ (OkS (bd X ks W) rsh fx F H fp σ D) _ r hok (fun z => z) (fun _ _ z => z.x) fun ds ρ1 J F1 H1 fp1 h1 r1 x1 wk => ?_
  let Wv : Nat → Nat → St → Hp → Prop := fun i m σ' H' => m = ds.length - i ∧ i ≤ ds.length ∧ ∃ ρ' F' gp, Rel X.K ks F' H' ρ' σ' gp ∧ Same F1 F' ∧ OkS (bd X ks W) rsh fx F' H' gp σ' D (mFor k mb (ds.drop i) ρ')
  refine ⟨Wv, ⟨ds.length, by simp, Nat.zero_le _, ρ1, F1, fp1, r1, fun _ _ z => z, by rw [List.drop_zero]; exact h1.ext x1 rfl⟩, ?_⟩
  rintro i m σ' H' ⟨hm, hi', ρ', F', gp, r', s', ok'⟩
  obtain ⟨w1, w2⟩ := wk i F' H' s' r'.sub
  by_cases hl : i < ds.length
  · refine .inr ?_
    have ed : ds[i]? = some ds[i] := List.getElem?_eq_getElem hl
    have edr : ds.drop i = ds[i] :: ds.drop (i + 1) := List.drop_eq_getElem_cons hl
    rw [edr] at ok'
    obtain ⟨go, yl⟩ := w1 _ ed
    refine ⟨go, fun σ2 H2 => ∃ m', m' < m ∧ Wv (i + 1) m' σ2 H2, fun σ2 H2 q => q, fun x H2 yy => ?_⟩
    obtain ⟨F2, al, rx⟩ := yl x H2 yy
    obtain ⟨r2, _, x2⟩ := al.rel (fv := []) r' (fun _ m => by simp at m) List.nodup_nil
    rw [List.append_nil] at x2
    have s2 : Same F' F2 := al.same r'.sub
    unfold mFor at ok'
    cases e1 : k ds[i] ρ' with
    | none => rw [e1] at ok'; exact (show False from ok').elim
    | some ρ3 =>
      rw [e1] at ok'
      dsimp only at ok'
      refine hg.sd _ x ρ' σ' F2 H2 gp ρ3 _ r2 rx e1 fun σ3 g3 r3 s3 q3 => ?_
      have x3 : Ext F' H' gp F2 H2 g3 := x2.sub s3
      have ok3 := OkS.ext x3 q3 ok'
      refine hb.sd ρ3 σ3 F2 H2 g3 _ r3 ?_
      cases e2 : mb ρ3 with
      | no => rw [e2] at ok3; exact ok3
      | ex y ρ4 => rw [e2] at ok3; exact ok3
      | ok f ρ4 =>
        rw [e2] at ok3
        cases f with
        | rt z => exact ok3
        | nx =>
          intro σ4 F4 H4 g4 r4 x4 q4
          refine ⟨ds.length - (i + 1), by omega, rfl, hl, ρ4, F4, g4, r4, fun a o z => r3.same x4 a o (s2 a o (s' a o z)), ?_⟩
          exact OkS.ext x4 q4 ok3
  · have e : i = ds.length := by omega
    refine .inl ⟨w2 (by omega), ?_⟩
    rw [e, List.drop_length] at ok'
    exact ok' σ' F' H' gp r' .refl rfl

/-! ### while -/
def iterW (c : MT) (b : MS) : Nat → MS
  | 0, _ => .no
  | n + 1, ρ => (c ρ).bind fun k ρ1 => if k = true then (b ρ1).bind fun f ρ2 => (match f with | .nx => iterW c b n ρ2 | .rt d => .ok (.rt d) ρ2) else .ok .nx ρ1
theorem iterW_mono (c : MT) (b : MS) : ∀ (n : Nat) (ρ : DEnv), iterW c b n ρ ≠ .no → iterW c b (n + 1) ρ = iterW c b n ρ
  | 0, ρ, h => absurd rfl h
  | n + 1, ρ, h => by
    unfold iterW at h
    rw [iterW, iterW]
    cases e : c ρ with
    | no => rfl
    | ex x ρ1 => rfl
    | ok k ρ1 =>
      rw [e] at h
      cases k with
      | false => rfl
      | true =>
        rw [R.bind_ok, if_pos rfl] at h
        rw [R.bind_ok, R.bind_ok, if_pos rfl, if_pos rfl]
        cases e2 : b ρ1 with
        | no => rfl
        | ex x ρ2 => rfl
        | ok f ρ2 =>
          rw [e2] at h
          cases f with
          | rt d => rfl
          | nx => exact iterW_mono c b n ρ2 h
theorem iterW_add (c : MT) (b : MS) (n : Nat) (ρ : DEnv) (h : iterW c b n ρ ≠ .no) : ∀ k : Nat, iterW c b (n + k) ρ = iterW c b n ρ
  | 0 => rfl
  | k + 1 => by
    have ih := iterW_add c b n ρ h k
    show iterW c b (n + k + 1) ρ = _
    rw [iterW_mono c b (n + k) ρ (by rw [ih]; exact h), ih]
open Classical in
noncomputable def mWhile (c : MT) (b : MS) : MS := fun ρ => if h : ∃ n, iterW c b n ρ ≠ .no then iterW c b h.choose ρ else .no
theorem mWhile_eq {c : MT} {b : MS} {ρ : DEnv} (n : Nat) (h : iterW c b n ρ ≠ .no) : mWhile c b ρ = iterW c b n ρ := by
  have hx : ∃ n, iterW c b n ρ ≠ .no := ⟨n, h⟩
  unfold mWhile
  rw [dif_pos hx]
  rcases Nat.le_total n hx.choose with q | q
  · obtain ⟨k, e⟩ := Nat.exists_eq_add_of_le q
    rw [e, iterW_add c b n ρ h k]
  · obtain ⟨k, e⟩ := Nat.exists_eq_add_of_le q
    conv => rhs; rw [e]
    rw [iterW_add c b _ ρ hx.choose_spec k]
theorem sv_while {tc : TT} {mc : MT} (hp : PassesOwn (model X.prog X.w) X.A X.env X.xe) (hc : ET X ks W c tc mc) (hb : SVs X ks W rsh fx body tb mb) : SV X ks W rsh fx (.While c body [] pos) (tWhile tc tb) (mWhile mc mb) := by
  refine ⟨ps_while hp hc.pe hb.pe, fun ρ σ F H fp D r hok => ?_⟩
  have hx : ∃ n, iterW mc mb n ρ ≠ .no := by
    by_cases q : ∃ n, iterW mc mb n ρ ≠ .no
    · exact q
    · unfold mWhile at hok
      rw [dif_neg q] at hok
      exact (show False from hok).elim
  obtain ⟨n, hn⟩ := hx
  rw [mWhile_eq n hn] at hok
  refine ⟨fun m σ' H' => ∃ ρ' F' gp, Rel X.K ks F' H' ρ' σ' gp ∧ OkS (bd X ks W) rsh fx F' H' gp σ' D (iterW mc mb m ρ'), ⟨n, ρ, F, fp, r, hok⟩, ?_⟩
  rintro m σ' H' ⟨ρ', F', gp, r', ok'⟩
  cases m with
  | zero => exact (show False from ok').elim
  | succ m =>
    unfold iterW at ok'
    refine hc.sd.go r' (Ok := OkS (bd X ks W) rsh fx F' H' gp σ' D) ok' (fun z => z) (fun _ _ z => z.x) fun kk ρ1 F1 H1 g1 h1 r1 x1 => ?_
    cases kk with
    | false =>
      rw [if_neg Bool.false_ne_true] at h1 ⊢
      exact h1 σ' F1 H1 g1 r1 x1 rfl
    | true =>
      rw [if_pos rfl] at h1 ⊢
      refine ⟨fun σ2 H2 => ∃ m', m' < m + 1 ∧ ∃ ρ' F' gp, Rel X.K ks F' H2 ρ' σ2 gp ∧ OkS (bd X ks W) rsh fx F' H2 gp σ2 D (iterW mc mb m' ρ'), fun _ _ q => q, ?_⟩
      have h2 := OkS.ext (σ1 := σ') x1 rfl h1
      refine hb.sd ρ1 σ' F1 H1 g1 _ r1 ?_
      cases e2 : mb ρ1 with
      | no => rw [e2] at h2; exact h2
      | ex y ρ4 => rw [e2] at h2; exact h2
      | ok f ρ4 =>
        rw [e2] at h2
        cases f with
        | rt z => exact h2
        | nx => exact fun σ4 F4 H4 g4 r4 x4 q4 => ⟨m, Nat.lt_succ_self _, ρ4, F4, g4, r4, OkS.ext x4 q4 h2⟩
end
end VL
/-! V9: comprehensions. -/
namespace VL
open PySem PySem.Spec L2

def R.bindN {α β : Type} (r : R α) (f : α → DEnv → R β) : R β := match r with
  | .ok a ρ => f a ρ
  | _ => .no
@[simp] theorem R.bindN_ok {α β : Type} (a : α) (ρ : DEnv) (f : α → DEnv → R β) : (R.ok a ρ).bindN f = f a ρ := rfl
def wipeD (ρ : DEnv) : List Nat → DEnv
  | [] => ρ
  | v :: vs => (wipeD ρ vs).set v none
def fillD (ρ1 : DEnv) : List Nat → DEnv → DEnv
  | [], ρ => ρ
  | v :: vs, ρ => fillD ρ1 vs (ρ.set v ((ρ1[v]?).bind id))
def mLcGo (k : D → DEnv → Option DEnv) (test : MT) (elt : ME) (vs : List Nat) : List D → List D → DEnv → R (List D)
  | [], acc, ρ => .ok acc ρ
  | d :: ds, acc, ρ => match k d (wipeD ρ vs) with
    | none => .no
    | some ρ1 => (test ρ1).bindN fun b ρ2 => if b = true then (elt ρ2).bindN fun y ρ3 => (if acc.length < 16777216 then mLcGo k test elt vs ds (acc ++ [y]) ρ3 else .no) else mLcGo k test elt vs ds acc ρ2
def mLc (ma : MA) (k : D → DEnv → Option DEnv) (test : MT) (elt : ME) (vs : List Nat) : ME := fun ρ => (ma ρ).bind fun ds ρ1 => (mLcGo k test elt vs ds [] ρ1).bind fun ys ρ2 => .ok (.lst ys) (fillD ρ1 vs (wipeD ρ2 vs))
section
variable {K : PySem.W.Frag} {ks : List Sh} {F H F' H' : Hp}
theorem RelL.wipes {ρ : DEnv} {σ : St} {fp : List Addr} (r : RelL K F H ks ρ σ fp) : ∀ vs : List Nat, ∃ g, RelL K F H ks (wipeD ρ vs) (wipe σ vs) g ∧ g.Sublist fp
  | [] => ⟨fp, r, .refl _⟩
  | v :: vs => by
    obtain ⟨g, r1, s1⟩ := RelL.wipes r vs
    obtain ⟨g2, r2, s2⟩ := r1.wipe1 v
    exact ⟨g2, r2.setV v none, s2.trans s1⟩
theorem Rel.wipes {ρ : DEnv} {σ : St} {fp : List Addr} (r : Rel K ks F H ρ σ fp) (vs : List Nat) : ∃ g, Rel K ks F H (wipeD ρ vs) (wipe σ vs) g ∧ ∀ y ∈ g, y ∈ fp := by
  obtain ⟨g, r1, s1⟩ := r.sl.wipes vs
  exact ⟨g, ⟨r.sub, r.nd.sublist s1, r1⟩, fun y m => s1.subset m⟩
theorem wipe_at {σ : St} {v : Nat} : ∀ {vs : List Nat}, v ∉ vs → (wipe σ vs)[v]? = σ[v]?
  | [], _ => rfl
  | u :: vs, h => by
    have h1 : v ≠ u := fun z => h (z ▸ List.mem_cons_self)
    have h2 : v ∉ vs := fun z => h (List.mem_cons_of_mem _ z)
    show ((wipe σ vs).set u none)[v]? = _
    rw [List.getElem?_set_ne (Ne.symm h1), wipe_at h2]
theorem set_none_idem (σ : St) (i : Nat) : (σ.set i none).set i none = σ.set i none := List.set_set ..
theorem wipe_none {σ : St} {v : Nat} : ∀ {vs : List Nat}, v ∈ vs → (wipe σ vs).set v none = wipe σ vs
  | u :: vs, h => by
    by_cases e : v = u
    · subst e; exact set_none_idem _ _
    · have h2 : v ∈ vs := (List.mem_cons.mp h).resolve_left e
      show ((wipe σ vs).set u none).set v none = (wipe σ vs).set u none
      rw [List.set_comm _ _ (Ne.symm e), wipe_none h2]
theorem wipe_sub (σ : St) (vs : List Nat) : ∀ {l : List Nat}, (∀ v ∈ l, v ∈ vs) → wipe (wipe σ vs) l = wipe σ vs
  | [], _ => rfl
  | u :: l, h => by
    show (wipe (wipe σ vs) l).set u none = _
    rw [wipe_sub σ vs fun v m => h v (List.mem_cons_of_mem _ m), wipe_none (h u List.mem_cons_self)]
theorem wipe_idem (σ : St) (vs : List Nat) : wipe (wipe σ vs) vs = wipe σ vs := wipe_sub σ vs fun _ m => m
theorem set_back {σ : St} {v : Nat} {x : Option V} (h : σ[v]? = some x) : (σ.set v none).set v x = σ := by
  rw [List.set_set]
  refine List.ext_getElem? fun j => ?_
  by_cases e : v = j
  · subst e
    rw [List.getElem?_set_self (List.getElem?_eq_some_iff.mp h).1, h]
  · rw [List.getElem?_set_ne e]
theorem Rel.fill {ρ1 : DEnv} {σ : St} {fp : List Addr} (r0 : Rel K ks F H ρ1 σ fp) (s : Same F F') : ∀ {vs : List Nat} {ρ : DEnv} {gp : List Addr}, vs.Nodup → (∀ v ∈ vs, ks[v]? = some .leaf) → Rel K ks F' H' ρ (wipe σ vs) gp → ∃ g, Rel K ks F' H' (fillD ρ1 vs ρ) σ g ∧ ∀ y ∈ g, y ∈ gp
  | [], ρ, gp, _, _, r => ⟨gp, r, fun _ m => m⟩
  | v :: vs, ρ, gp, nd, hk, r => by
    have nv : v ∉ vs := (List.nodup_cons.mp nd).1
    have hkv := hk v List.mem_cons_self
    have hv : v < σ.length := by
      rw [← r0.sl.lens.2, ← r0.sl.lens.1]
      exact (List.getElem?_eq_some_iff.mp hkv).1
    have ex : σ[v]? = some σ[v] := List.getElem?_eq_getElem hv
    have ew : (wipe σ vs)[v]? = some σ[v] := (wipe_at nv).trans ex
    cases e : (ρ1[v]?).bind id with
    | some d =>
      obtain ⟨w, f, g0, q1, q2, _, _⟩ := r0.sl.split hkv (getE e)
      obtain ⟨q3, _⟩ := q2.leafE
      have ew' : (wipe σ vs)[v]? = some (some w) := (wipe_at nv).trans q1
      obtain ⟨g1, r1, s1⟩ := r.store (fv := []) (v := w) (.leaf (q3.mono s)) (by rw [List.append_nil]; exact r.nd) hkv
      have r1' : Rel K ks F' H' (ρ.set v (some d)) (wipe σ vs) g1 := by
        have := r1
        rw [show (wipe σ (v :: vs)).set v (some w) = wipe σ vs from set_back ew'] at this
        exact this
      obtain ⟨g2, r2, s2⟩ := Rel.fill r0 s (List.nodup_cons.mp nd).2 (fun u m => hk u (List.mem_cons_of_mem _ m)) r1'
      refine ⟨g2, ?_, fun y m => by have := s1 y (s2 y m); rwa [List.append_nil] at this⟩
      unfold fillD
      rw [e]
      exact r2
    | none =>
      obtain ⟨g1, w1, sl⟩ := r.sl.wipe1 v
      have w2 := w1.setV v σ[v]
      rw [show (wipe σ (v :: vs)).set v σ[v] = wipe σ vs from set_back ew] at w2
      obtain ⟨g2, r2, s2⟩ := Rel.fill r0 s (List.nodup_cons.mp nd).2 (fun u m => hk u (List.mem_cons_of_mem _ m)) (gp := g1) ⟨r.sub, r.nd.sublist sl, w2⟩
      refine ⟨g2, ?_, fun y m => sl.subset (s2 y m)⟩
      unfold fillD
      rw [e]
      exact r2
end
abbrev W0 : WX := fun _ _ _ _ => False
theorem bindN_ok {α β : Type} {r : R α} {f : α → DEnv → R β} {g : R β → Prop} (h : g (r.bindN f)) (hn : ¬ g .no) : ∃ a ρ, r = .ok a ρ ∧ g (f a ρ) := by
  cases r with
  | ok a ρ => exact ⟨a, ρ, rfl, h⟩
  | ex e ρ => exact (hn h).elim
  | no => exact (hn h).elim
theorem snd_lc {b : Bd} {wi : TI} {g : TG} {tt : TT} {te : TE} {vs : List Nat} {ma : MA} {k : D → DEnv → Option DEnv} {mt : MT} {me : ME} (nd : vs.Nodup) (hk : ∀ v ∈ vs, b.ks[v]? = some .leaf)
    (hi : ∀ ρ σ F H fp (Q : It → Hp → Prop) (Ok : R D → Prop) (f : List D → DEnv → R D), Rel b.K b.ks F H ρ σ fp → Ok ((ma ρ).bind f) → ¬ Ok .no → (∀ e ρ1, Ok (.ex e ρ1) → OkX b F H fp σ e ρ1) →
      (∀ ds ρ1 J F1 H1 fp1, Ok (f ds ρ1) → Rel b.K b.ks F1 H1 ρ1 σ fp1 → Ext F H fp F1 H1 fp1 → Walks b.K J ds F1 → Q J H1) → wi σ H Q)
    (hg : ∀ d v ρ σ F H fp ρ' (Q : St → Hp → Prop), Rel b.K b.ks F H ρ σ fp → Rep b.K F v d → k d ρ = some ρ' → (∀ σ' gp, Rel b.K b.ks F H ρ' σ' gp → (∀ y ∈ gp, y ∈ fp) → wipe σ' vs = wipe σ vs → Q σ' H) → g v σ H Q)
    (ht : SndT ⟨b.K, b.mg, b.ks, W0⟩ tt mt) (he : SndE ⟨b.K, b.mg, b.ks, W0⟩ .leaf te me) : SndE b (.lst .leaf) (tLc wi g tt te vs) (mLc ma k mt me vs) := by
  intro ρ σ F H fp Q r hok
  refine hi ρ σ F H fp _ (OkE b (.lst .leaf) F H fp σ Q) _ r hok (fun z => z) (fun _ _ z => z) fun ds ρ1 J F1 H1 fp1 h1 r1 x1 wk => ?_
  intro Da nD
  have nDF : F1 Da = none := by
    cases e : F1 Da with
    | none => rfl
    | some y => have q := r1.sub _ _ e; rw [nD] at q; cases q
  have alc0 : Alc F1 H1 F1 (upd H1 Da (.lst [])) := upd_alcH r1.sub nD
  obtain ⟨r1', nd1', x1'⟩ := alc0.rel (fv := [Da]) r1 (fun x m => by simp at m; subst m; exact nD) (by simp)
  obtain ⟨g0, rw0, sw0⟩ := r1'.wipes vs
  let Wv : Nat → Nat → Hp → Prop := fun i m H' => m = ds.length - i ∧ i ≤ ds.length ∧ ∃ ρ' F' gp acc accV, Rel b.K b.ks F' H' (wipeD ρ' vs) (wipe σ vs) gp ∧ Same F1 F' ∧ F' Da = none ∧ H' Da = some (.lst accV) ∧ Da ∉ gp ∧ Reps b.K F' accV acc ∧
    Ext F1 H1 fp1 F' H' (gp ++ [Da]) ∧ OkE b (.lst .leaf) F H fp σ Q ((mLcGo k mt me vs (ds.drop i) acc ρ').bind fun ys ρ2 => .ok (.lst ys) (fillD ρ1 vs (wipeD ρ2 vs)))
  refine ⟨Wv, ⟨ds.length, by simp, Nat.zero_le _, ρ1, F1, g0, [], [], rw0, fun _ _ z => z, nDF, upd_same, ?_, .nil, x1'.sub fun y m => ?_, by rw [List.drop_zero]; exact h1⟩, ?_⟩
  · intro m
    have := sw0 _ m
    have n2 := (List.nodup_append.mp nd1').2.2
    exact n2 Da this Da (by simp) rfl
  · rcases List.mem_append.mp m with m | m
    · exact List.mem_append_left _ (sw0 y m)
    · exact List.mem_append_right _ m
  rintro i m H' ⟨hm, hi', ρ', F', gp, acc, accV, r', s', nF', eD, nG, ra, xx, ok'⟩
  obtain ⟨w1, w2⟩ := wk i F' H' s' r'.sub
  by_cases hl : i < ds.length
  · refine .inr ?_
    have ed : ds[i]? = some ds[i] := List.getElem?_eq_getElem hl
    have edr : ds.drop i = ds[i] :: ds.drop (i + 1) := List.drop_eq_getElem_cons hl
    rw [edr] at ok'
    obtain ⟨go, yl⟩ := w1 _ ed
    refine ⟨go, fun H2 => ∃ m', m' < m ∧ Wv (i + 1) m' H2, fun H2 q => q, fun x H2 yy => ?_⟩
    obtain ⟨F2, al, rx⟩ := yl x H2 yy
    obtain ⟨r2, _, x2⟩ := al.rel (fv := []) r' (fun _ m => by simp at m) List.nodup_nil
    rw [List.append_nil] at x2
    have s2 : Same F' F2 := al.same r'.sub
    have eD2 := al.keep Da _ eD
    unfold mLcGo at ok'
    cases e1 : k ds[i] (wipeD ρ' vs) with
    | none => rw [e1] at ok'; exact (show False from ok').elim
    | some ρ3 =>
      rw [e1] at ok'
      dsimp only at ok'
      refine hg _ x _ _ F2 H2 gp ρ3 _ r2 rx e1 fun σ3 g3 r3 s3 q3 => ⟨?_, ?_⟩
      · rw [q3]
        exact wipe_idem σ vs
      have q3' : wipe σ3 vs = wipe σ vs := q3.trans (wipe_idem σ vs)
      have x3 : Ext F' H' gp F2 H2 g3 := x2.sub s3
      obtain ⟨c, ρ4, e2, ok4⟩ := bindN_ok (g := fun r => OkE b (.lst .leaf) F H fp σ Q (r.bind fun ys ρ2 => .ok (.lst ys) (fillD ρ1 vs (wipeD ρ2 vs)))) ok' (fun z => z)
      have nG3 : Da ∉ g3 := fun z => nG (s3 _ z)
      refine ht ρ3 σ3 F2 H2 g3 _ r3 ?_
      rw [e2]
      intro F4 H4 g4 r4 x4
      have eD4 := x4.keep Da _ eD2.1 nG3
      have nG4 : Da ∉ g4 := fun z => by
        rcases x4.fr _ z with q | q
        · exact nG3 q
        · rw [eD2.1] at q; cases q
      have s4 : Same F2 F4 := r3.same x4
      -- the end of a turn
      have turn : ∀ {ρ5 : DEnv} {F5 H5 : Hp} {g5 : List Addr} {acc5 : List D} {accV5 : List V}, Rel b.K b.ks F5 H5 ρ5 σ3 g5 → Same F2 F5 → F5 Da = none → H5 Da = some (.lst accV5) → Da ∉ g5 → Reps b.K F5 accV5 acc5 → Ext F' H' (gp ++ [Da]) F5 H5 (g5 ++ [Da]) →
          OkE b (.lst .leaf) F H fp σ Q ((mLcGo k mt me vs (ds.drop (i + 1)) acc5 ρ5).bind fun ys ρ2 => .ok (.lst ys) (fillD ρ1 vs (wipeD ρ2 vs))) → ∃ m', m' < m ∧ Wv (i + 1) m' H5 := by
        intro ρ5 F5 H5 g5 acc5 accV5 r5 s5 n5 e5 ng5 ra5 x5 ok5
        obtain ⟨g6, r6, s6⟩ := r5.wipes vs
        rw [q3'] at r6
        refine ⟨ds.length - (i + 1), by omega, rfl, hl, ρ5, F5, g6, acc5, accV5, r6, fun a o z => s5 a o (s2 a o (s' a o z)), n5, e5, fun z => ng5 (s6 _ z), ra5, xx.trans (x5.sub fun y m => ?_), ok5⟩
        rcases List.mem_append.mp m with m | m
        · exact List.mem_append_left _ (s6 y m)
        · exact List.mem_append_right _ m
      have grow : ∀ {Fa Ha Fb Hb : Hp} {ga gb : List Addr}, Ext Fa Ha ga Fb Hb gb → Ext Fa Ha (ga ++ [Da]) Fb Hb (gb ++ [Da]) := fun {Fa Ha Fb Hb ga gb} z => ⟨fun a o e n => z.keep a o e fun q => n (List.mem_append_left _ q), fun a q => by
        rcases List.mem_append.mp q with q | q
        · rcases z.fr a q with p | p
          · exact .inl (List.mem_append_left _ p)
          · exact .inr p
        · exact .inl (List.mem_append_right _ q)⟩
      cases c with
      | false =>
        rw [if_neg Bool.false_ne_true] at ok4 ⊢
        refine turn r4 s4 (by rw [eD4.2, eD2.2]; exact nF') eD4.1 nG4 ((ra.mono s2).mono s4) ((grow x3).trans (grow x4)) ok4
      | true =>
        rw [if_pos rfl] at ok4 ⊢
        obtain ⟨y, ρ5, e3, ok5⟩ := bindN_ok (g := fun r => OkE b (.lst .leaf) F H fp σ Q (r.bind fun ys ρ2 => .ok (.lst ys) (fillD ρ1 vs (wipeD ρ2 vs)))) ok4 (fun z => z)
        refine he ρ4 σ3 F4 H4 g4 _ r4 ?_
        rw [e3]
        intro u F5 H5 g5 fv5 r5 nd5 x5 o5
        obtain ⟨ru, rfl⟩ := o5.leafE
        rw [List.append_nil] at x5 nd5
        have eD5 := x5.keep Da _ eD4.1 nG4
        have nG5 : Da ∉ g5 := fun z => by
          rcases x5.fr _ z with q | q
          · exact nG4 q
          · rw [eD4.1] at q; cases q
        have s5 : Same F4 F5 := r4.same x5
        have n5 : F5 Da = none := by rw [eD5.2, eD4.2, eD2.2]; exact nF'
        by_cases hlen : acc.length < 16777216
        · rw [if_pos hlen] at ok5
          refine ⟨accV, eD5.1, by rw [ra.length, sizeLine_eq]; exact hlen, ?_⟩
          have sub6 : Sub F5 (upd H5 Da (.lst (accV ++ [u]))) := sub_updH r5.sub n5 (by intro _ z; cases z)
          have r6 : Rel b.K b.ks F5 (upd H5 Da (.lst (accV ++ [u]))) ρ5 σ3 g5 := ⟨sub6, r5.nd, r5.sl.frame (fun _ _ z => z) fun a m => ⟨(r5.sl.own a m).1, upd_ne fun q => nG5 (q ▸ m)⟩⟩
          refine turn r6 (fun a o z => s5 a o (s4 a o z)) n5 upd_same nG5 ((((ra.mono s2).mono s4).mono s5).append (.cons ru .nil)) ?_ ok5
          refine ((grow x3).trans (grow x4)).trans ⟨fun a o e n => ?_, fun a m => ?_⟩
          · have na : a ≠ Da := fun q => n (by rw [q]; simp)
            have n4 : a ∉ g4 := fun q => n (List.mem_append_left _ q)
            obtain ⟨k1, k2⟩ := x5.keep a o e n4
            exact ⟨(upd_ne na).trans k1, k2⟩
          · rcases List.mem_append.mp m with m | m
            · rcases x5.fr a m with q | q
              · exact .inl (List.mem_append_left _ q)
              · exact .inr q
            · exact .inl (List.mem_append_right _ m)
        · rw [if_neg hlen] at ok5; exact (show False from ok5).elim
  · have e : i = ds.length := by omega
    refine .inl ⟨w2 (by omega), ?_⟩
    rw [e, List.drop_length] at ok'
    have ok2 := OkE.ext x1 ok'
    obtain ⟨g7, r7, s7⟩ := Rel.fill r1 s' nd hk r'
    refine ok2 (.ref Da) F' H' g7 [Da] r7 ?_ (xx.sub fun y m => ?_) (.lst nF' eD (ORs.ofReps ra))
    · refine List.nodup_append.mpr ⟨r7.nd, by simp, fun a m c m2 q => ?_⟩
      have : c = Da := by simpa using m2
      subst this
      subst q
      exact nG (s7 _ m)
    · rcases List.mem_append.mp m with m | m
      · exact List.mem_append_left _ (s7 y m)
      · exact List.mem_append_right _ m
def Tw (vs : List Nat) : St → St → Prop := fun σ' σ => wipe σ' vs = wipe σ vs
theorem wipe_set {i : Nat} (σ : St) (x : Option V) : ∀ {vs : List Nat}, i ∈ vs → wipe (σ.set i x) vs = wipe σ vs
  | u :: vs, h => by
    show (wipe (σ.set i x) vs).set u none = (wipe σ vs).set u none
    by_cases e : i ∈ vs
    · rw [wipe_set σ x e]
    · have eu : u = i := ((List.mem_cons.mp h).resolve_right e).symm
      subst eu
      rw [wipe_out' σ x e]
      exact List.set_set ..
where
  wipe_out' {i : Nat} (σ : St) (x : Option V) : ∀ {vs : List Nat}, i ∉ vs → wipe (σ.set i x) vs = (wipe σ vs).set i x
    | [], _ => rfl
    | u :: vs, h => by
      have h1 : i ≠ u := fun z => h (z ▸ List.mem_cons_self)
      show (wipe (σ.set i x) vs).set u none = ((wipe σ vs).set u none).set i x
      rw [wipe_out' σ x fun z => h (List.mem_cons_of_mem _ z), List.set_comm _ _ h1]
theorem tw_set {i : Nat} {vs : List Nat} (h : i ∈ vs) (σ : St) (x : Option V) : Tw vs (σ.set i x) σ := wipe_set σ x h
/-- the tests of a comprehension: none, one -/
structure ETs (X : Cx) (ks : List Sh) (W : WX) (ifs : List Expr) (t : TT) (m : MT) : Prop where
  pe : PTs X ifs t
  sd : SndT (bd X ks W) t m
def mYes : MT := fun ρ => .ok true ρ
section
variable {X : Cx} {ks : List Sh} {W : WX}
theorem ets_nil : ETs X ks W [] tYes mYes := ⟨pts_nil, fun ρ σ F H fp Q r h => h F H fp r .refl⟩
theorem ets_one {c : Expr} {t : TT} {m : MT} (h : ET X ks W c t m) : ETs X ks W [c] t m := ⟨pts_one h.pe, h.sd⟩
theorem ev_lc {elt tg iter : Expr} {ifs : List Expr} {scope : Scope} {own : List (Str × Nat)} {pos : Pos} {wi : TI} {g : TG} {tt : TT} {te : TE} {ma : MA} {k : D → DEnv → Option DEnv} {mt : MT} {me : ME} (hc : X.calm = true) (hN : X.N.Nodup) (hi : IV X ks W tg iter wi ma)
    (ok : BlkOk X.N X.env.scope scope own) (nd : (own.map (·.2)).Nodup) (hk : ∀ v ∈ own.map (·.2), ks[v]? = some .leaf)
    (hg : ∀ (s : Shared) (H : Hp) (C : Addr) (cl : List (Str × Addr)) (fp : List Addr), GV (X.blk s H scope (compEnvC scope cl C X.env) fp) ks (Tw (own.map (·.2))) tg g k)
    (ht : ∀ (s : Shared) (H : Hp) (C : Addr) (cl : List (Str × Addr)) (fp : List Addr), ETs (X.blk s H scope (compEnvC scope cl C X.env) fp) ks W0 ifs tt mt)
    (he : ∀ (s : Shared) (H : Hp) (C : Addr) (cl : List (Str × Addr)) (fp : List Addr), EV (X.blk s H scope (compEnvC scope cl C X.env) fp) ks W0 elt .leaf te me) (hs : ∀ x, foldedSetIterable iter X.env x = pure x := by intro _; rfl) :
    EV X ks W (.ListComp elt [⟨tg, iter, ifs, 0⟩] scope pos) (.lst .leaf) (tLc wi g tt te (own.map (·.2))) (mLc ma k mt me (own.map (·.2))) :=
  ⟨pe_lc hc hN hi.pe ok (fun s H C cl fp => (hg s H C cl fp).pe) (fun s H C cl fp => (ht s H C cl fp).pe) (fun s H C cl fp => (he s H C cl fp).pe) hs,
    snd_lc (b := bd X ks W) nd hk (fun ρ σ F H fp Q Ok f r h1 h2 h3 h4 => hi.sd ρ σ F H fp Q Ok f r h1 h2 h3 h4) (fun d v ρ σ F H fp ρ' Q r rp e kk => (hg X.s_0 X.H_0 0 [] []).sd d v ρ σ F H fp ρ' Q r rp e kk)
      (ht X.s_0 X.H_0 0 [] []).sd (he X.s_0 X.H_0 0 [] []).sd⟩
/-- name = [..] -/
theorem sv_setLc {rsh : Sh} {fx : Nat} {i : Nat} {y : Str} {py : Pos} {elt tg iter : Expr} {ifs : List Expr} {scope : Scope} {own : List (Str × Nat)} {pos spos : Pos} {wi : TI} {g : TG} {tt : TT} {te : TE} {ma : MA} {k : D → DEnv → Option DEnv} {mt : MT} {me : ME} {sh : Sh} (hc : X.calm = true) (hN : X.N.Nodup)
    (hy : X.N[i]? = some y) (hyl : X.env.scope.names.lookup y = some .local) (hky : ks[i]? = some sh) (hf : fx ≤ i) (hsh : sh = .lst .leaf ∨ sh = .leaf)
    (hsw : swapsWith (.ListComp elt [⟨tg, iter, ifs, 0⟩] scope pos) (some (.Name y py)) spos.line X.env = pure true) (hi : IV X ks W tg iter wi ma)
    (ok : BlkOk X.N X.env.scope scope own) (nd : (own.map (·.2)).Nodup) (hk : ∀ v ∈ own.map (·.2), ks[v]? = some .leaf)
    (hg : ∀ (s : Shared) (H : Hp) (C : Addr) (cl : List (Str × Addr)) (fp : List Addr), GV (X.blk s H scope (compEnvC scope cl C X.env) fp) ks (Tw (own.map (·.2))) tg g k)
    (ht : ∀ (s : Shared) (H : Hp) (C : Addr) (cl : List (Str × Addr)) (fp : List Addr), ETs (X.blk s H scope (compEnvC scope cl C X.env) fp) ks W0 ifs tt mt)
    (he : ∀ (s : Shared) (H : Hp) (C : Addr) (cl : List (Str × Addr)) (fp : List Addr), EV (X.blk s H scope (compEnvC scope cl C X.env) fp) ks W0 elt .leaf te me) (hs : ∀ x, foldedSetIterable iter X.env x = pure x := by intro _; rfl) :
    SV X ks W rsh fx (.Assign [.Name y py] (.ListComp elt [⟨tg, iter, ifs, 0⟩] scope pos) spos) (tAsg (tLc wi g tt te (own.map (·.2))) (gName i)) (mSet i (mLc ma k mt me (own.map (·.2)))) := by
  have h1 : EV X ks W (.ListComp elt [⟨tg, iter, ifs, 0⟩] scope pos) (.lst .leaf) (tLc wi g tt te (own.map (·.2))) (mLc ma k mt me (own.map (·.2))) := ev_lc hc hN hi ok nd hk hg ht he hs
  have h2 : EV X ks W (.ListComp elt [⟨tg, iter, ifs, 0⟩] scope pos) sh (tLc wi g tt te (own.map (·.2))) (mLc ma k mt me (own.map (·.2))) := by
    rcases hsh with z | z
    · subst z; exact h1
    · subst z; exact ev_frzL h1
  refine ⟨ps_setLc hc hN hy hyl hsw hi.pe ok (fun s H C cl fp => (hg s H C cl fp).pe) (fun s H C cl fp => (ht s H C cl fp).pe) (fun s H C cl fp => (he s H C cl fp).pe) hs, fun ρ σ F H fp D r hok => h2.sd ρ σ F H fp _ r ?_⟩
  unfold mSet at hok
  cases em : mLc ma k mt me (own.map (·.2)) ρ with
  | no => rw [em] at hok; exact hok
  | ex z ρ1 => rw [em] at hok; exact OkS.x hok
  | ok d ρ1 =>
    rw [em] at hok
    intro v F' H' fp' fv r' nd' x' o
    obtain ⟨gp, r2, sb⟩ := r'.store o nd' hky
    exact hok (σ.set i (some v)) F' H' gp r2 (x'.sub sb) (take_set hf)
end
end VL
/-! V10: defs whose callers' guards are known; their promise by data; calls; the end. -/
namespace VL
open PySem PySem.Spec L2

/-- a def's promise, where no guard stands -/
structure FnG (P : Program) (w : World) (K : PySem.W.Frag) (mg : Str → Option Value) (base : Heap) (CX : CXT) (k : Nat) (f : Addr) (fd : FuncData) (ps : List Str) (sp : Sp) : Prop where
  len : ∀ vs H Q E, sp vs H Q E → vs.length = ps.length
  run : ∀ (A : Around) (outer : List Env) (s : Shared) (H : Hp) (args : Args) (us : List Value) (vs : List V) (Q : VK) (E : XK), Room k A → A.guards = some [] → Env0 P w K mg base A outer s H →
    BindsTo s fd args (ps.zip us) → Vals vs us → sp vs H Q E → codeAny (model P w) A (.call (.ref f) args) (CR CX outer P w H s Q E) s
theorem FnG.mono {P : Program} {w : World} {K : PySem.W.Frag} {mg : Str → Option Value} {base : Heap} {CX : CXT} {j k : Nat} {f : Addr} {fd : FuncData} {ps : List Str} {sp : Sp}
    (G : FnG P w K mg base CX j f fd ps sp) (h : j ≤ k) : FnG P w K mg base CX k f fd ps sp :=
  ⟨G.len, fun A o s H a us vs Q E hr => G.run A o s H a us vs Q E (hr.mono h)⟩
/-- its body -/
theorem fng_of {CX : CXT} {P : Program} {w : World} {K : PySem.W.Frag} {mg : Str → Option Value} {base : Heap} {k : Nat} {f : Addr} {nm qn : Str} {pa : Arguments} {bo : List Stmt} {sc : Scope} {dV kV doc pm cdv ct oc : Value} {an od : Option Addr}
    {osl : Array (Option Value)} {N ps : List Str} {sp : Sp}
    (lk : K.lookup f = some ⟨oc, od, .func (PySem.W.fnOf nm qn pa bo sc dV kV doc pm an cdv ct), osl⟩) (hcd : PySem.W.codeIn K cdv qn = true) (S : FnScope N ps sc) (len : ∀ vs H Q E, sp vs H Q E → vs.length = ps.length)
    (body : ∀ (A : Around) (outer : List Env) (s : Shared) (H : Hp) (vs : List V) (Q : VK) (E : XK), Room k (A.deeper (PyProof.Rows.envOfC qn sc s.heap.objs.size f cdv)) → A.guards = some [] → sp vs H Q E →
      ∃ t, PSs (cxOf CX P w K mg base N qn sc f cdv A outer s H E) bo t ∧ t { nx := fun _ H' => Q .non H', rt := Q } (L2.start N vs) H) :
    FnG P w K mg base CX (k + 1) f (PySem.W.fnOf nm qn pa bo sc dV kV doc pm an cdv ct) ps sp := by
  refine ⟨len, fun A outer s H args us vs Q E hr hgd e0 hb r hsp => ?_⟩
  have kin : K.In s.heap := e0.mod.kin.keeps fun b o e => (e0.bs b o e).1
  have nolim : s.heap.NoLimit := e0.mod.nolimit.keeps fun b o e => (e0.bs b o e).1
  have kinds : ∀ y ∈ ps.zip us, sc.names.lookup y.1 = some .local ∨ (sc.names.lookup y.1 = some .cell ∧ ((cellsFrom (s.heap.objs.size + 1) sc.names []).lookup y.1).isSome = true) := by
    rintro ⟨n, v⟩ hy
    cases S.par n (List.of_mem_zip hy).1 with
    | inl q => exact .inl q
    | inr q => exact .inr ⟨q, PySem.W.cellsFrom_some _ _ _ (.inl q)⟩
  refine codeAny_call_function hr.depth (kin _ _ lk) rfl S.co S.gen rfl (PySem.W.codeRec_of kin hcd) (hb _ _ _ _ ?_)
  refine wpAny_newFunctionEnv_cells S.kind kinds fun env he s1 x => ?_
  subst he
  refine ⟨nolim.keeps x.toInCall.keep, codeAny_func ?_⟩
  obtain ⟨t, ht, hq⟩ := body A outer s H vs Q E (hr.deeper _) hgd hsp
  have I := inv_start (CX := CX) (P := P) (w := w) (K := K) (mg := mg) (base := base) (E := E) (cd := cdv) (f := f) S hr.hd e0 (len _ _ _ _ hsp) r x
  refine wpAny_mono (ht.run [] s1 (L2.start N vs) H _ I hq) (fun fl s' hs => ?_) (fun _ _ z => z)
  cases fl with
  | ret u => obtain ⟨v, σ', H', J, rv, q⟩ := hs; exact ⟨v, H', J.os, J.bare, J.base, J.hok, rv, q⟩
  | next => obtain ⟨σ', H', J, q⟩ := hs; exact ⟨.non, H', J.os, J.bare, J.base, J.hok, rfl, q⟩
  | brk => obtain ⟨_, _, _, q⟩ := hs; exact q.elim
  | cont => obtain ⟨_, _, _, q⟩ := hs; exact q.elim
section
variable {X : Cx} {CX : CXT} {k : Nat} {f C : Addr} {fd : FuncData} {ps : List Str} {sp : Sp} {x : Str} {p pos : Pos} {e : Expr} {es : List Expr} {t : TA}
theorem run_fng {E : XK} {pins : List (Addr × Obj)} {σ : St} {H : Hp} {s : Shared} {Q : VK} {us : List Value} {vs : List V} (G : FnG X.prog X.w X.K X.mg X.base CX k f fd ps sp) (hr : Room k X.A) (hgd : X.A.guards = some []) (hb : Binds X.K fd ps []) (hx : PassesAt CX X σ E)
    (I : Inv X pins σ H s) (r : Vals vs us) (h : sp vs H Q E) : wpAny (model X.prog X.w) X.A (call (.ref f) us) (EP X pins σ Q) X.xe s := by
  have hl : (us ++ ([] : List Value)).length = ps.length := by rw [List.append_nil, ← r.length]; exact G.len _ _ _ _ h
  have hb' := hb s us I.kIn hl
  rw [List.append_nil] at hb'
  refine wpAny_call (codeAny_mono (G.run X.A X.stack s H ⟨us, []⟩ us vs Q E hr hgd I.env0 hb' r h) fun r s' hq => ?_)
  match r, hq with
  | .error e, hq => exact hx pins H s e s' I hq
  | .ok (.ret u), hq => exact I.after hq
  | .ok .next, hq => exact False.elim hq
  | .ok .brk, hq => exact False.elim hq
  | .ok .cont, hq => exact False.elim hq
/-- f(e, ..) -/
theorem pe_callG {E : St → XK} (G : FnG X.prog X.w X.K X.mg X.base CX k f fd ps sp) (hr : Room k X.A) (hgd : X.A.guards = some []) (hg : Gl X x) (hm : X.mg x = some (.ref f)) (hk : PySem.W.keepIn X.K (.ref f) = true) (hb : Binds X.K fd ps []) (hx : ∀ σ, PassesAt CX X σ (E σ))
    (ha : PA X (e :: es) t) (hdb : (x == ("__debug__" : Str)) = false) (he : starEach (e :: es) X.env = (false, eval e X.env) :: starEach es X.env) (hpl : (backTo pos (starEach es X.env)).any (·.1) = false) :
    PE X (.Call (.Name x p) (e :: es) [] pos) (tCallS sp E t) := by
  refine ⟨fun pins s σ H Q I h => wpAny_Call_Name_kw (ld_glob I hg hm ?_ hdb)⟩
  exact PySem.W.callWith_K (h₀ := X.base) I.ok.mod.kin hk (thn (ha.run pos pins s σ H _ I h) fun us s1 ⟨vs, H1, I1, r, q⟩ => ⟨I1.kIn, run_fng G hr hgd hb (hx σ) I1 r q⟩) he hpl
end

/-! ### a promise by data -/
def OkF (K : PySem.W.Frag) (mg : Str → Option Value) (psh : List Sh) (fx : Nat) (rsh : Sh) (F H : Hp) (fp : List Addr) (vs : List V) (Q : VK) (E : XK) : R D → Prop
  | .no => False
  | .ok d ρ' => ∀ v F' H' fp' fv, Rel K (psh.take fx) F' H' ρ' ((vs.take fx).map some) fp' → (fp' ++ fv).Nodup → Ext F H fp F' H' (fp' ++ fv) → OR K F' H' rsh v d fv → Q v H'
  | .ex e ρ' => ∀ cls dx F' H' fp', Rel K (psh.take fx) F' H' ρ' ((vs.take fx).map some) fp' → Ext F H fp F' H' fp' → ExR ⟨K, mg, [], W0⟩ F' e cls dx → E cls dx H'
/-- psh: the parameters' shapes, the first fx of them are handed back; rsh: the result's shape; g: what it computes -/
def spV (K : PySem.W.Frag) (mg : Str → Option Value) (n : Nat) (psh : List Sh) (fx : Nat) (rsh : Sh) (g : List D → R D) : Sp := fun vs H Q E =>
  vs.length = n ∧ ∃ F fp ds, Rel K psh F H (ds.map some) (vs.map some) fp ∧ OkF K mg psh fx rsh F H fp vs Q E (g ds)
/-- the end of a body -/
def fin (fx : Nat) : R Fl → R D
  | .no => .no
  | .ok .nx ρ => .ok .non (ρ.take fx)
  | .ok (.rt d) ρ => .ok d (ρ.take fx)
  | .ex e ρ => .ex e (ρ.take fx)
/-- a result that is no exception -/
def R.noEx {α : Type} : R α → R α
  | .ex _ _ => .no
  | r => r
@[simp] theorem R.noEx_ok {α : Type} (a : α) (ρ : DEnv) : (R.ok a ρ).noEx = .ok a ρ := rfl
def runF (N fx : Nat) (m : MS) : List D → R D := fun ds => fin fx (m (ds.map some ++ List.replicate (N - ds.length) none))
theorem RelL.take {K : PySem.W.Frag} {F H : Hp} : ∀ {ks : List Sh} {ρ : DEnv} {σ : St} {fp : List Addr} (n : Nat), RelL K F H ks ρ σ fp → ∃ g, RelL K F H (ks.take n) (ρ.take n) (σ.take n) g ∧ g.Sublist fp
  | _, _, _, _, 0, _ => ⟨[], .nil, List.nil_sublist _⟩
  | _, _, _, _, _ + 1, .nil => ⟨[], .nil, .refl _⟩
  | _, _, _, _, n + 1, .non r => by
    obtain ⟨g, a, b⟩ := RelL.take n r
    exact ⟨g, .non a, b⟩
  | _, _, _, _, n + 1, .som o r => by
    obtain ⟨g, a, b⟩ := RelL.take n r
    exact ⟨_, .som o a, List.Sublist.append (.refl _) b⟩
theorem RelL.more {K : PySem.W.Frag} {F H : Hp} : ∀ (ls : List Sh) {ks : List Sh} {ρ : DEnv} {σ : St} {fp : List Addr}, RelL K F H ks ρ σ fp → RelL K F H (ks ++ ls) (ρ ++ List.replicate ls.length none) (σ ++ List.replicate ls.length none) fp
  | [], _, _, _, _, .nil => .nil
  | _ :: ls, _, _, _, _, .nil => .non (RelL.more ls .nil)
  | ls, _, _, _, _, .non r => .non (RelL.more ls r)
  | ls, _, _, _, _, .som o r => .som o (RelL.more ls r)
/-- the body's reading from its judgement -/
theorem body_ok {X : Cx} {W : WX} {psh lsh : List Sh} {fx : Nat} {rsh : Sh} {bo : List Stmt} {t : TS} {m : MS} {vs : List V} {H : Hp} {Q : VK} {E : XK} {n : Nat} {N : List Str} (h : SVs X (psh ++ lsh) W rsh fx bo t m) (hn : psh.length = n) (hN : N.length = n + lsh.length) (hfx : fx ≤ n) (hnx : rsh = .leaf ∨ ∀ ρ ρ', m ρ ≠ .ok .nx ρ')
    (hW : ∀ cls d σ H', E cls d H' → W cls d σ H') (hs : spV X.K X.mg n psh fx rsh (runF (n + lsh.length) fx m) vs H Q E) : t { nx := fun _ H' => Q .non H', rt := Q } (L2.start N vs) H := by
  obtain ⟨hl, F, fp, ds, r, ok⟩ := hs
  have l1 := r.sl.lens
  have hd : ds.length = n := by have := l1.1; rw [List.length_map] at this; omega
  have e1 : L2.start N vs = vs.map some ++ List.replicate lsh.length none := by
    unfold L2.start
    rw [hN, hl]
    congr 2
    omega
  have e2 : n + lsh.length - ds.length = lsh.length := by omega
  rw [e1]
  refine h.sd (ds.map some ++ List.replicate lsh.length none) _ F H fp _ ⟨r.sub, r.nd, r.sl.more lsh⟩ ?_
  unfold runF at ok
  rw [e2] at ok
  have tk0 : (vs.map some ++ List.replicate lsh.length none).take fx = (vs.take fx).map some := by
    rw [List.take_append_of_le_length (by rw [List.length_map]; omega), List.map_take]
  have tks : (psh ++ lsh).take fx = psh.take fx := List.take_append_of_le_length (by omega)
  -- from the whole frame to the parameters handed back
  have cut : ∀ {F' H' : Hp} {ρ' : DEnv} {σ' : St} {fp' fv : List Addr}, Rel X.K (psh ++ lsh) F' H' ρ' σ' fp' → (fp' ++ fv).Nodup → Ext F H fp F' H' (fp' ++ fv) → σ'.take fx = (vs.map some ++ List.replicate lsh.length none).take fx →
      ∃ gp, Rel X.K (psh.take fx) F' H' (ρ'.take fx) ((vs.take fx).map some) gp ∧ (gp ++ fv).Nodup ∧ Ext F H fp F' H' (gp ++ fv) := fun {F' H' ρ' σ' fp' fv} r' nd x q => by
    obtain ⟨g, a, b⟩ := r'.sl.take fx
    rw [tks, q, tk0] at a
    refine ⟨g, ⟨r'.sub, r'.nd.sublist b, a⟩, nd.sublist (List.Sublist.append b (.refl _)), x.sub fun y m => ?_⟩
    rcases List.mem_append.mp m with m | m
    · exact List.mem_append_left _ (b.subset m)
    · exact List.mem_append_right _ m
  cases em : m (ds.map some ++ List.replicate lsh.length none) with
  | no => rw [em] at ok; exact ok
  | ex e ρ' =>
    rw [em] at ok
    intro cls dx σ' F' H' fp' r' x q ex
    obtain ⟨gp, r2, _, x2⟩ := cut (fv := []) r' (by rw [List.append_nil]; exact r'.nd) (by rw [List.append_nil]; exact x) q
    rw [List.append_nil] at x2
    exact hW _ _ _ _ (ok cls dx F' H' gp r2 x2 ex)
  | ok f ρ' =>
    rw [em] at ok
    cases f with
    | nx =>
      intro σ' F' H' fp' r' x q
      rcases hnx with z | z
      · subst z
        obtain ⟨gp, r2, nd2, x2⟩ := cut (fv := []) r' (by rw [List.append_nil]; exact r'.nd) (by rw [List.append_nil]; exact x) q
        exact ok .non F' H' gp [] r2 nd2 x2 (.leaf .non)
      · exact absurd em (z _ _)
    | rt d =>
      intro v σ' F' H' fp' fv r' nd x q o
      obtain ⟨gp, r2, nd2, x2⟩ := cut r' nd x q
      exact ok v F' H' gp fv r2 nd2 x2 o
section
variable {P : Program} {w : World} {K : PySem.W.Frag} {mg : Str → Option Value} {base : Heap}
/-- a def that raises nothing -/
theorem Fun.okG {x qual : Str} {st : Stmt} {f : Addr} {fd : FuncData} {N ps : List Str} {k n : Nat} {psh lsh : List Sh} {fx : Nat} {rsh : Sh} {m : MS} (G : L2.Fun K x qual st f fd) (S : FnScope N ps (defScope st)) (hp : ps.length = n) (hn : psh.length = n) (hN : N.length = n + lsh.length) (hfx : fx ≤ n) (hnx : rsh = .leaf ∨ ∀ ρ ρ', m ρ ≠ .ok .nx ρ')
    (body : ∀ X : Cx, X.prog = P → X.w = w → X.K = K → X.mg = mg → X.base = base → X.N = N → X.calm = true → X.xe = (fun _ _ => False) → X.fn = (fun _ => true) → (∃ L f cd, X.env = PyProof.Rows.envOfC qual (defScope st) L f cd) → Room k X.A → X.A.guards = some [] →
      ∃ t, SVs X (psh ++ lsh) W0 rsh fx (defBody st) t m) : FnG P w K mg base CX0 (k + 1) f fd ps (spV K mg n psh fx rsh fun ds => (runF (n + lsh.length) fx m ds).noEx) := by
  obtain ⟨oc, od, kV, doc, pm, an, cdv, ct, osl, rfl, lk, hcd⟩ := G.ex
  refine fng_of lk hcd S (fun vs H Q E h => h.1.trans hp.symm) fun A outer s H vs Q E hr hgd hsp => ?_
  obtain ⟨t, ht⟩ := body (cxOf CX0 P w K mg base N qual (defScope st) f cdv A outer s H E).nox rfl rfl rfl rfl rfl rfl rfl rfl rfl ⟨_, _, _, rfl⟩ hr hgd
  refine ⟨t, ht.pe.nox, body_ok (E := fun _ _ _ => False) ht hn hN hfx hnx (fun _ _ _ _ z => z) ?_⟩
  obtain ⟨h1, F, fp, ds, r, ok⟩ := hsp
  refine ⟨h1, F, fp, ds, r, ?_⟩
  dsimp only at ok
  cases e : runF (n + lsh.length) fx m ds with
  | no => rw [e] at ok; exact ok
  | ok d ρ' => rw [e] at ok; exact ok
  | ex y ρ' => rw [e] at ok; exact (show False from ok).elim
/-- a def that may raise -/
theorem Fun.okXG {x qual : Str} {st : Stmt} {f : Addr} {fd : FuncData} {N ps : List Str} {k n : Nat} {psh lsh : List Sh} {fx : Nat} {rsh : Sh} {m : MS} (G : L2.Fun K x qual st f fd) (S : FnScope N ps (defScope st)) (hp : ps.length = n) (hn : psh.length = n) (hN : N.length = n + lsh.length) (hfx : fx ≤ n) (hnx : rsh = .leaf ∨ ∀ ρ ρ', m ρ ≠ .ok .nx ρ')
    (body : ∀ (X : Cx) (W : WX), X.prog = P → X.w = w → X.K = K → X.mg = mg → X.base = base → X.N = N → X.calm = true → Takes X W → PassesOwn (model X.prog X.w) X.A X.env X.xe → X.fn = (fun _ => true) → (∃ L f cd, X.env = PyProof.Rows.envOfC qual (defScope st) L f cd) → Room k X.A → X.A.guards = some [] →
      ∃ t, SVs X (psh ++ lsh) W rsh fx (defBody st) t m) : FnG P w K mg base (L2.CX P w) (k + 1) f fd ps (spV K mg n psh fx rsh (runF (n + lsh.length) fx m)) := by
  obtain ⟨oc, od, kV, doc, pm, an, cdv, ct, osl, rfl, lk, hcd⟩ := G.ex
  refine fng_of lk hcd S (fun vs H Q E h => h.1.trans hp.symm) fun A outer s H vs Q E hr hgd hsp => ?_
  obtain ⟨t, ht⟩ := body (cxOf (L2.CX P w) P w K mg base N qual (defScope st) f cdv A outer s H E) (fun cls d _ H' => E cls d H') rfl rfl rfl rfl rfl rfl rfl (takes_of rfl rfl rfl rfl) (passes_of rfl) rfl ⟨_, _, _, rfl⟩ hr hgd
  exact ⟨t, ht.pe, body_ok ht hn hN hfx hnx (fun _ _ _ _ z => z) hsp⟩
end

/-! ### calls -/
def mCall0 (n : Nat) (g : List D → R D) (a : MA) : ME := fun ρ => (a ρ).bind fun ds ρ1 => if ds.length = n then (match g ds with | .ok d _ => .ok d ρ1 | .ex e _ => .ex e ρ1 | .no => .no) else .no
def mCall1 (i n : Nat) (g : List D → R D) (a : MA) : ME := fun ρ => (R.of (own ρ i) ρ).bind fun _ _ => (a ρ).bind fun ds ρ1 => (R.of (own ρ1 i) ρ1).bind fun d0 _ =>
  if ds.length = n then (match g (d0 :: ds) with | .ok d [some d1] => .ok d (ρ1.set i (some d1)) | .ex e [some d1] => .ex e (ρ1.set i (some d1)) | _ => .no) else .no
abbrev leaves (n : Nat) : List Sh := List.replicate n .leaf
theorem relL_leaves {K : PySem.W.Frag} {F H : Hp} : ∀ {vs : List V} {ds : List D}, Reps K F vs ds → RelL K F H (leaves ds.length) (ds.map some) (vs.map some) []
  | _, _, .nil => .nil
  | _, _, .cons h t => RelL.som (f := []) (fp := []) (.leaf h) (relL_leaves t)
section
variable {X : Cx} {ks : List Sh} {W : WX} {CX : CXT} {k n : Nat} {f : Addr} {fd : FuncData} {ps : List Str} {rsh s0 : Sh} {g : List D → R D} {x : Str} {p pos : Pos} {e : Expr} {es : List Expr} {t : TA} {ma : MA}
theorem snd_call0 {b : Bd} (hW : b.W = W) (ha : SndA b t ma) : SndE b rsh (tCallS (spV b.K b.mg n (leaves n) 0 rsh g) (WE W) t) (mCall0 n g ma) := by
  intro ρ σ F H fp Q r hok
  refine ha.go r (Ok := OkE b rsh F H fp σ Q) hok (fun z => z) (fun _ _ z => z) fun ds ρ1 vs F1 H1 fp1 h1 r1 x1 p1 => ?_
  by_cases hn : ds.length = n
  · rw [if_pos hn] at h1
    refine ⟨by rw [p1.length]; exact hn, F1, [], ds, ⟨r1.sub, List.nodup_nil, by rw [← hn]; exact relL_leaves p1⟩, ?_⟩
    have h2 := OkE.ext x1 h1
    -- the callee only lays
    have back : ∀ {F' H' : Hp} {fp' fv : List Addr}, Sub F' H' → Ext F1 H1 [] F' H' (fp' ++ fv) → Alc F1 H1 F' H' := fun {F' H' fp' fv} s x => ⟨s, fun a o z => x.keep a o z (by simp)⟩
    cases eg : g ds with
    | no => rw [eg] at h2; exact h2
    | ok d ρ' =>
      rw [eg] at h2
      intro v F' H' fp' fv r' nd x o
      have nd' := List.nodup_append.mp nd
      obtain ⟨r2, nd2, x2⟩ := (back r'.sub x).rel (fv := fv) r1 (fun y m => (x.fr y (List.mem_append_right _ m)).resolve_left (by simp)) nd'.2.1
      exact h2 v F' H' fp1 fv r2 nd2 x2 o
    | ex y ρ' =>
      rw [eg] at h2
      intro cls dx F' H' fp' r' x ex
      obtain ⟨r2, _, x2⟩ := (back (fv := []) r'.sub (by rw [List.append_nil]; exact x)).rel (fv := []) r1 (fun y m => by simp at m) List.nodup_nil
      rw [List.append_nil] at x2
      show W cls dx σ H'
      rw [← hW]
      exact h2 cls dx F' H' fp1 r2 x2 ex
  · rw [if_neg hn] at h1; exact (show False from h1).elim
theorem snd_call1 {b : Bd} {i : Nat} (hW : b.W = W) (hk : b.ks[i]? = some s0) (ha : SndA b t ma) : SndE b rsh (tCallS (spV b.K b.mg (n + 1) (s0 :: leaves n) 1 rsh g) (WE W) (tCons (tVar i) t)) (mCall1 i n g ma) := by
  intro ρ σ F H fp Q r hok
  unfold mCall1 at hok
  cases e0 : own ρ i with
  | none => rw [e0] at hok; exact (show False from hok).elim
  | some dd =>
    rw [e0] at hok
    obtain ⟨v, f0, g0, s1, _, _, _⟩ := r.sl.split hk (getE e0)
    refine ⟨v, s1, ?_⟩
    refine ha.go r (Ok := OkE b rsh F H fp σ Q) hok (fun z => z) (fun _ _ z => z) fun ds ρ1 vs F1 H1 fp1 h1 r1 x1 p1 => ?_
    cases e1 : own ρ1 i with
    | none => rw [e1] at h1; exact (show False from h1).elim
    | some d0 =>
      rw [e1, R.of_some, R.bind_ok] at h1
      by_cases hn : ds.length = n
      · rw [if_pos hn] at h1
        obtain ⟨v', fa, gb, s2, o1, sl, pm⟩ := r1.sl.split hk (getE e1)
        rw [s1] at s2
        cases s2
        have nda := List.nodup_append.mp (pm.nodup_iff.mp r1.nd)
        have rl : RelL b.K F1 H1 (s0 :: leaves n) (some d0 :: ds.map some) (some v :: vs.map some) (fa ++ []) := .som o1 (by rw [← hn]; exact relL_leaves p1)
        rw [List.append_nil] at rl
        refine ⟨by rw [List.length_cons, p1.length, hn], F1, fa, d0 :: ds, ⟨r1.sub, nda.1, rl⟩, ?_⟩
        have h2 := OkE.ext x1 h1
        have fa_in : ∀ y ∈ fa, y ∈ fp1 := fun y m => pm.symm.subset (List.mem_append_left _ m)
        have gb_in : ∀ y ∈ gb, y ∈ fp1 := fun y m => pm.symm.subset (List.mem_append_right _ m)
        -- what stands of the frame behind the callee
        have back : ∀ {F' H' : Hp} {ρ' : DEnv} {d1 : D} {fp' fv : List Addr}, ρ' = [some d1] → Rel b.K ((s0 :: leaves n).take 1) F' H' ρ' (((v :: vs).take 1).map some) fp' → (fp' ++ fv).Nodup → Ext F1 H1 fa F' H' (fp' ++ fv) →
            ∃ gp, Rel b.K b.ks F' H' (ρ1.set i (some d1)) σ gp ∧ (gp ++ fv).Nodup ∧ Ext F1 H1 fp1 F' H' (gp ++ fv) := by
          intro F' H' ρ' d1 fp' fv eρ r' nd x
          subst eρ
          have r0 := r'.sl
          rw [List.take_succ_cons, List.take_zero, List.take_succ_cons, List.take_zero] at r0
          cases r0 with
          | @som _ _ _ _ _ _ fz fz' oz rz =>
            cases rz
            have keepg : ∀ y ∈ gb, ∃ o, H1 y = some o ∧ y ∉ fa ∧ H' y = some o ∧ F' y = F1 y := fun y m => by
              obtain ⟨_, o, ho⟩ := sl.own y m
              have nf : y ∉ fa := fun q => nda.2.2 y q y m rfl
              obtain ⟨k1, k2⟩ := x.keep y o ho nf
              exact ⟨o, ho, nf, k1, k2⟩
            have sF : Same F1 F' := fun a o z => by
              have n1 : a ∉ fa := fun q => by rw [(o1.own a q).1] at z; cases z
              rw [(x.keep a o (r1.sub _ _ z) n1).2]; exact z
            have sl2 : RelL b.K F' H' b.ks (ρ1.set i none) σ gb := sl.frame sF fun a m => by
              obtain ⟨o, q1, _, q2, q3⟩ := keepg a m
              exact ⟨q3.trans (sl.own a m).1, q2.trans q1.symm⟩
            obtain ⟨gp, r2, p2⟩ := RelL.join oz sl2 hk s1
            have fzin : ∀ y ∈ fz, y ∈ fz ++ [] ++ fv := fun y m => List.mem_append_left _ (List.mem_append_left _ m)
            have ndz := List.nodup_append.mp nd
            have apart : ∀ y ∈ fz ++ [] ++ fv, ∀ z ∈ gb, y ≠ z := fun y m z m2 q => by
              subst q
              obtain ⟨o, q1, q2, _, _⟩ := keepg y m2
              rcases x.fr y m with w | w
              · exact q2 w
              · rw [w] at q1; cases q1
            refine ⟨gp, ⟨r'.sub, p2.nodup_iff.mpr (List.nodup_append.mpr ⟨?_, nda.2.1, fun y m z m2 => apart y (fzin y m) z m2⟩), r2⟩, ?_, ⟨fun a o z n1 => x.keep a o z fun q => n1 (fa_in a q), fun y m => ?_⟩⟩
            · have := ndz.1; rwa [List.append_nil] at this
            · refine List.nodup_append.mpr ⟨p2.nodup_iff.mpr (List.nodup_append.mpr ⟨by have := ndz.1; rwa [List.append_nil] at this, nda.2.1, fun y m z m2 => apart y (fzin y m) z m2⟩), ndz.2.1, fun y m z m2 q => ?_⟩
              subst q
              rcases List.mem_append.mp (p2.subset m) with w | w
              · exact ndz.2.2 y (by rw [List.append_nil]; exact w) y m2 rfl
              · exact apart y (List.mem_append_right _ m2) y w rfl
            · rcases List.mem_append.mp m with m | m
              · rcases List.mem_append.mp (p2.subset m) with w | w
                · rcases x.fr y (fzin y w) with q | q
                  · exact .inl (fa_in y q)
                  · exact .inr q
                · exact .inl (gb_in y w)
              · rcases x.fr y (List.mem_append_right _ m) with q | q
                · exact .inl (fa_in y q)
                · exact .inr q
        cases eg : g (d0 :: ds) with
        | no => rw [eg] at h2; exact h2
        | ok d ρ' =>
          rw [eg] at h2
          intro v' F' H' fp' fv r' nd x o
          split at h2
          · rename_i d' d1 q
            cases q
            obtain ⟨gp, q1, q2, q3⟩ := back rfl r' nd x
            exact h2 v' F' H' gp fv q1 q2 q3 o
          · rename_i q
            cases q
          · exact (show False from h2).elim
        | ex y ρ' =>
          rw [eg] at h2
          intro cls dx F' H' fp' r' x ex
          split at h2
          · rename_i q
            cases q
          · rename_i e' d1 q
            cases q
            obtain ⟨gp, q1, _, q3⟩ := back (fv := []) rfl r' (by rw [List.append_nil]; exact r'.nd) (by rw [List.append_nil]; exact x)
            rw [List.append_nil] at q3
            show W cls dx σ H'
            rw [← hW]
            exact h2 cls dx F' H' gp q1 q3 ex
          · exact (show False from h2).elim
      · rw [if_neg hn] at h1; exact (show False from h1).elim
/-- a def of the top, to be called by its name -/
structure Cl (X : Cx) (CX : CXT) (k : Nat) (x : Str) (n : Nat) (psh : List Sh) (fx : Nat) (rsh : Sh) (g : List D → R D) : Prop where
  ex : ∃ f fd ps, FnG X.prog X.w X.K X.mg X.base CX k f fd ps (spV X.K X.mg n psh fx rsh g) ∧ X.mg x = some (.ref f) ∧ PySem.W.keepIn X.K (.ref f) = true ∧ Binds X.K fd ps []
theorem ev_call0 (c : Cl X CX k x n (leaves n) 0 rsh g) (hx : ∀ σ, PassesAt CX X σ (WE W σ)) (hr : Room k X.A) (hgd : X.A.guards = some []) (ha : EA X ks W (e :: es) t ma) (hg : Gl X x := by rfl) (hdb : (x == ("__debug__" : Str)) = false := by decide)
    (he : starEach (e :: es) X.env = (false, eval e X.env) :: starEach es X.env := by rfl) (hpl : (backTo pos (starEach es X.env)).any (·.1) = false := by rfl) : EV X ks W (.Call (.Name x p) (e :: es) [] pos) rsh (tCallS (spV X.K X.mg n (leaves n) 0 rsh g) (WE W) t) (mCall0 n g ma) := by
  obtain ⟨f, fd, ps, G, hm, hk, hb⟩ := c.ex
  exact ⟨pe_callG G hr hgd hg hm hk hb hx ha.pe hdb he hpl, snd_call0 (b := bd X ks W) rfl ha.sd⟩
theorem ev_call1 {y : Str} {p' : Pos} (i : Nat) (c : Cl X CX k x (n + 1) (s0 :: leaves n) 1 rsh g) (hx : ∀ σ, PassesAt CX X σ (WE W σ)) (hr : Room k X.A) (hgd : X.A.guards = some []) (ha : EA X ks W es t ma) (hky : ks[i]? = some s0 := by rfl) (hN : X.N[i]? = some y := by rfl)
    (hv : Vis X.env.scope y := by first | exact Or.inl rfl | exact Or.inr (Or.inl rfl) | exact Or.inr (Or.inr rfl)) (hd : (y == ("__debug__" : Str)) = false := by decide) (hcd : (y == ("__classdict__" : Str)) = false := by decide) (hg : Gl X x := by rfl) (hdb : (x == ("__debug__" : Str)) = false := by decide)
    (he : starEach (.Name y p' :: es) X.env = (false, eval (.Name y p') X.env) :: starEach es X.env := by rfl) (hpl : (backTo pos (starEach es X.env)).any (·.1) = false := by rfl) :
    EV X ks W (.Call (.Name x p) (.Name y p' :: es) [] pos) rsh (tCallS (spV X.K X.mg (n + 1) (s0 :: leaves n) 1 rsh g) (WE W) (tCons (tVar i) t)) (mCall1 i n g ma) := by
  obtain ⟨f, fd, ps, G, hm, hk, hb⟩ := c.ex
  exact ⟨pe_callG G hr hgd hg hm hk hb hx (pa_cons (pe_var hN hv hd hcd) ha.pe he) hdb he hpl, snd_call1 (b := bd X ks W) rfl hky ha.sd⟩
theorem px0 : ∀ σ, PassesAt CX0 X σ (WE W σ) := fun _ _ _ _ _ _ _ h => h.elim
end
end VL
/-! V11: the built-ins. -/
namespace VL
open PySem PySem.Spec L2

def asInts : List D → Option (List Int)
  | [] => some []
  | .int i :: r => (asInts r).bind fun t => some (i :: t)
  | _ => none
def asBls : List D → Option (List Bool)
  | [] => some []
  | .bl i :: r => (asBls r).bind fun t => some (i :: t)
  | _ => none
def asStrs : List D → Option (List Str)
  | [] => some []
  | .str i :: r => (asStrs r).bind fun t => some (i :: t)
  | _ => none
/-- the members of a list, of a tuple -/
def D.mem : D → Option (List D)
  | .lst ds => some ds
  | .tup ds => some ds
  | .key ks => some (ks.map keyD)
  | .scr ns => some (ns.map .int)
  | _ => none
def D.memL : D → Option (List D)
  | .lst ds => some ds
  | .scr ns => some (ns.map .int)
  | _ => none
section
variable {K : PySem.W.Frag} {F H : Hp}
theorem reps_asInts : ∀ {vs : List V} {ds : List D} {ns : List Int}, Reps K F vs ds → asInts ds = some ns → vs = ns.map V.int
  | _, _, _, .nil, e => by cases e; rfl
  | _, d :: ds, ns, .cons h t, e => by
    cases d with
    | int i =>
      unfold asInts at e
      cases q : asInts ds with
      | none => rw [q] at e; cases e
      | some r => rw [q] at e; cases e; cases h; rw [reps_asInts t q]; rfl
    | _ => cases e
theorem reps_asBls : ∀ {vs : List V} {ds : List D} {ns : List Bool}, Reps K F vs ds → asBls ds = some ns → vs = ns.map V.bl
  | _, _, _, .nil, e => by cases e; rfl
  | _, d :: ds, ns, .cons h t, e => by
    cases d with
    | bl i =>
      unfold asBls at e
      cases q : asBls ds with
      | none => rw [q] at e; cases e
      | some r => rw [q] at e; cases e; cases h; rw [reps_asBls t q]; rfl
    | _ => cases e
theorem Vw.memE (sm : Sub F H) {v : V} {d : D} {ds : List D} (h : Vw K F H v d) (e : d.mem = some ds) : ∃ p vs, v = .ref p ∧ (SqL K H p vs ∨ SqT K H p vs) ∧ Reps K F vs ds := by
  cases d with
  | lst _ => cases e; obtain ⟨p, vs, e1, e2, r⟩ := h.lstE sm; exact ⟨p, vs, e1, .inl (.inl (.inl e2)), r⟩
  | tup _ => cases e; obtain ⟨p, vs, e1, e2, e3, r⟩ := h.tupR sm; exact ⟨p, vs, e1, .inr e2, r⟩
  | key _ => cases e; obtain ⟨p, e1, e2, r⟩ := h.keyR sm; exact ⟨p, _, e1, .inr e2, r⟩
  | scr ns => cases e; obtain ⟨p, e1, e2⟩ := h.scrE sm; exact ⟨p, _, e1, .inl e2, reps_ints ns⟩
  | _ => cases e
theorem Vw.memLE (sm : Sub F H) {v : V} {d : D} {ds : List D} (h : Vw K F H v d) (e : d.memL = some ds) : ∃ p vs, v = .ref p ∧ SqL K H p vs ∧ Reps K F vs ds := by
  cases d with
  | lst _ => cases e; obtain ⟨p, vs, e1, e2, r⟩ := h.lstE sm; exact ⟨p, vs, e1, (.inl (.inl e2)), r⟩
  | scr ns => cases e; obtain ⟨p, e1, e2⟩ := h.scrE sm; exact ⟨p, _, e1, e2, reps_ints ns⟩
  | _ => cases e
theorem pr1 {R0 : D → V → Prop} {d : D} {xs : List V} (h : Paired R0 [d] xs) : ∃ x, xs = [x] ∧ R0 d x := by
  cases h with | cons a t => cases t; exact ⟨_, rfl, a⟩
theorem pr2 {R0 : D → V → Prop} {d e : D} {xs : List V} (h : Paired R0 [d, e] xs) : ∃ x y, xs = [x, y] ∧ R0 d x ∧ R0 e y := by
  cases h with | cons a t => cases t with | cons b t => cases t; exact ⟨_, _, rfl, a, b⟩
/-- f of one thing -/
def one (f : D → Option D) : List D → Option D
  | [d] => f d
  | _ => none
def two (f : D → D → Option D) : List D → Option D
  | [d, e] => f d e
  | _ => none
theorem s_one {sh : Sh} {r : List V → Hp → VK → Prop} {f : D → Option D} (h : ∀ F H x d z Q, Sub F H → Vw K F H x d → f d = some z → OkV K sh F H Q z → r [x] H Q) : OpN K sh r (one f) := by
  intro F H xs ds z Q sm hp e ok
  match ds, hp, e with
  | [d], hp, e => obtain ⟨x, rfl, v⟩ := pr1 hp; exact h F H x d z Q sm v e ok
theorem s_two {sh : Sh} {r : List V → Hp → VK → Prop} {f : D → D → Option D} (h : ∀ F H x y d e z Q, Sub F H → Vw K F H x d → Vw K F H y e → f d e = some z → OkV K sh F H Q z → r [x, y] H Q) : OpN K sh r (two f) := by
  intro F H xs ds z Q sm hp e ok
  match ds, hp, e with
  | [d, g], hp, e => obtain ⟨x, y, rfl, v, w⟩ := pr2 hp; exact h F H x y d g z Q sm v w e ok

/-! ### len -/
def lenD : D → Option D
  | .str x => some (.int x.length)
  | .lst ds => some (.int ds.length)
  | .tup ds => some (.int ds.length)
  | .key ks => some (.int ks.length)
  | .scr ns => some (.int ns.length)
  | .dK kvs => some (.int kvs.length)
  | .dT kvs => some (.int kvs.length)
  | _ => none
theorem call_lenR {X : Cx} : CallR X (.builtin "len") (fun xs H Q => ∃ a kvs, xs = [V.ref a] ∧ Rd H a (.dK kvs) ∧ Q (.int kvs.length) H) := by
  intro pins s σ H xs us Q I r h
  obtain ⟨a, kvs, rfl, ha, q⟩ := h
  obtain ⟨u, rfl, ru⟩ := vals1 r
  cases ru
  exact d_len I ha fun t s' I' => ⟨.int kvs.length, H, I', ⟨t, rfl⟩, q⟩
theorem call_lenRT {X : Cx} : CallR X (.builtin "len") (fun xs H Q => ∃ a kvs, xs = [V.ref a] ∧ Rd H a (.dT kvs) ∧ Q (.int ((kvs.length : Nat) : Int)) H) := by
  intro pins s σ H xs us Q I r h
  obtain ⟨p, kvs, rfl, hp, q⟩ := h
  obtain ⟨u, rfl, rx⟩ := vals1 r
  obtain rfl : u = .ref p := rx
  obtain ⟨z, hd, ys, rel, dd⟩ := dt_rd I.hok hp
  have hl : kvs.length = ys.length := Paired.length rel
  refine call_len_dictH hd dd (by rw [← hl]; rw [sizeLine_eq] at z; omega) ?_
  rw [← hl]
  exact ⟨.int ((kvs.length : Nat) : Int), H, I.tok _, ⟨_, rfl⟩, q⟩
abbrev rLenU (K : PySem.W.Frag) : List V → Hp → VK → Prop := fun xs H Q => (∃ x n, xs = [x] ∧ LenV K x H n ∧ Q (.int n) H) ∨ (∃ a kvs, xs = [V.ref a] ∧ Rd H a (.dK kvs) ∧ Q (.int kvs.length) H) ∨ (∃ a kvs, xs = [V.ref a] ∧ Rd H a (.dT kvs) ∧ Q (.int ((kvs.length : Nat) : Int)) H)
theorem cr_len {X : Cx} : CallR X (.builtin "len") (rLenU X.K) := call_len.or (call_lenR.or call_lenRT)
theorem s_len : OpN K .leaf (rLenU K) (one lenD) := by
  refine s_one fun F H x d z Q sm h e ok => ?_
  unfold lenD at e
  split at e
  · cases e; obtain ⟨e1, e2⟩ := h.strE; subst e1; exact .inl ⟨_, _, rfl, ⟨asc_line e2, rfl⟩, ok.here sm (.int _)⟩
  · cases e; obtain ⟨p, vs, e1, e2, r⟩ := h.lstE sm; subst e1; exact .inl ⟨_, vs.length, rfl, .inl ⟨_, (.inl (.inl e2)), rfl⟩, by rw [r.length]; exact ok.here sm (.int _)⟩
  · cases e; obtain ⟨p, vs, e1, e2, e3, r⟩ := h.tupR sm; subst e1; exact .inl ⟨_, vs.length, rfl, .inr ⟨_, e2, rfl⟩, by rw [r.length]; exact ok.here sm (.int _)⟩
  · cases e; rename_i ks; obtain ⟨p, e1, e2, r⟩ := h.keyR sm; subst e1; exact .inl ⟨_, (ks.map kV).length, rfl, .inr ⟨_, e2, rfl⟩, by rw [List.length_map]; exact ok.here sm (.int _)⟩
  · cases e; rename_i ns; obtain ⟨p, e1, e2⟩ := h.scrE sm; subst e1; exact .inl ⟨_, (ns.map V.int).length, rfl, .inl ⟨_, e2, rfl⟩, by rw [List.length_map]; exact ok.here sm (.int _)⟩
  · cases e
    obtain ⟨p, kvs, e1, e2, e3, r⟩ := h.dKE sm; subst e1
    have hl := congrArg List.length e3
    rw [List.length_map, List.length_map] at hl
    exact .inr (.inl ⟨_, _, rfl, e2, by rw [hl]; exact ok.here sm (.int _)⟩)
  · cases e
    obtain ⟨p, kvs, e1, e2, e3, r⟩ := h.dTE sm; subst e1
    have hl := congrArg List.length e3
    rw [List.length_map, List.length_map] at hl
    exact .inr (.inr ⟨_, _, rfl, e2, by rw [hl]; exact ok.here sm (.int _)⟩)
  · cases e

/-! ### all, any, sum, min, max, int -/
def allD (d : D) : Option D := d.memL.bind fun ds => (asBls ds).bind fun bs => some (.bl (bs.all id))
theorem memLb {α : Type} {d : D} {g : List D → Option α} {z : α} (h : d.memL.bind g = some z) : ∃ ds, d.memL = some ds ∧ g ds = some z := by
  cases e : d.memL with
  | none => rw [e] at h; cases h
  | some ds => rw [e] at h; exact ⟨ds, rfl, h⟩
theorem optb {α β : Type} {o : Option α} {g : α → Option β} {z : β} (h : o.bind g = some z) : ∃ a, o = some a ∧ g a = some z := by
  cases o with
  | none => cases h
  | some a => exact ⟨a, rfl, h⟩
theorem s_all : OpN K .leaf (rAll K) (one allD) := by
  refine s_one fun F H x d z Q sm h e ok => ?_
  obtain ⟨ds, e1, e⟩ := memLb e
  obtain ⟨bs, e2, e⟩ := optb e
  cases e
  obtain ⟨p, vs, rfl, q, r⟩ := h.memLE sm e1
  have ev := reps_asBls r e2
  subst ev
  exact ⟨p, bs, rfl, q, ok.here sm (.bl _)⟩
def intD : D → Option D
  | .int i => some (.int i)
  | .bl b => some (.int (if b then 1 else 0))
  | _ => none
theorem s_int : OpN K .leaf (fun xs H Q => (∃ i, xs = [.int i] ∧ Q (.int i) H) ∨ ∃ k, xs = [.bl k] ∧ Q (.int (if k then 1 else 0)) H) (one intD) := by
  refine s_one fun F H x d z Q sm h e ok => ?_
  cases d with
  | int i => cases e; rw [h.intE]; exact .inl ⟨i, rfl, ok.here sm (.int _)⟩
  | bl i => cases e; rw [h.blE]; exact .inr ⟨i, rfl, ok.here sm (.int _)⟩
  | _ => cases e

/-! ### list, tuple -/
def listD (d : D) : Option D := d.mem.bind fun ds => some (.lst ds)
theorem s_listOf : OpN K (.lst .leaf) (fun xs H Q => ∃ p ys, xs = [.ref p] ∧ (SqL K H p ys ∨ SqT K H p ys) ∧ ∀ l, H l = none → Q (.ref l) (upd H l (.lst ys))) (one listD) := by
  refine s_one fun F H x d z Q sm h e ok => ?_
  obtain ⟨ds, e1, e⟩ := optb e
  cases e
  obtain ⟨p, vs, rfl, q, r⟩ := h.memE sm e1
  exact ⟨p, vs, rfl, q, fun l n => ok.newL sm r n⟩
def D.memT : D → Option (List D)
  | .key _ => none
  | d => d.mem
@[simp] theorem memT_lst (ds : List D) : (D.lst ds).memT = some ds := rfl
@[simp] theorem memT_tup (ds : List D) : (D.tup ds).memT = some ds := rfl
def tupleD (d : D) : Option D := d.memT.bind fun ds => some (.tup ds)
theorem s_tupleOf : Op1 K .leaf (kTupF K) tupleD := by
  intro F H x d z Q sm h e ok
  obtain ⟨ds, e1, e⟩ := optb e
  cases e
  cases d with
  | tup es =>
    cases e1
    obtain ⟨p, vs, e1, e2, e3, r⟩ := h.tupR sm
    subst e1
    exact .inr ⟨p, vs, rfl, e2, ok.here sm (.tup e3 r)⟩
  | lst es =>
    cases e1
    obtain ⟨p, vs, e1, e2, r⟩ := h.lstE sm
    subst e1
    exact .inl ⟨p, vs, rfl, .inl (.inl e2), fun l us n => ok.newT sm r n⟩
  | scr ns =>
    cases e1
    obtain ⟨p, e1, e2⟩ := h.scrE sm
    subst e1
    exact .inl ⟨p, _, rfl, e2, fun l us n => ok.newT sm (reps_ints ns) n⟩
  | _ => cases e1
end
section
variable {X : Cx} {ks : List Sh} {W : WX} {a : Expr} {ta : TE} {p pos : Pos}
theorem ev_tupleOf {mo : MO} (ha : EO X ks W a ta mo) (hm : X.mg "tuple" = none) (hg : Gl X "tuple" := by rfl) (na : starEach [a] X.env = (false, eval a X.env) :: starEach [] X.env := by rfl) :
    EV X ks W (.Call (.Name "tuple" p) [a] [] pos) .leaf (tThen ta (kTupF X.K)) (mOp1 tupleD mo) := ⟨pe_tupleOfF hg hm ha.pe na, snd_op1 (b := bd X ks W) s_tupleOf ha.sd⟩
end

/-! ### isinstance -/
def D.cls : D → Option String
  | .non => some "NoneType" | .bl _ => some "bool" | .int _ => some "int" | .str _ => some "str"
  | .tup _ => some "tuple" | .key _ => some "tuple" | .lst _ => some "list" | .dK _ => some "dict" | .scr _ => some "list"
  | _ => none
def isiB (n : String) (d : D) : Option D := d.cls.bind fun c => (kitB c n).bind fun b => some (.bl b)
def isiD : D → D → Option D
  | d, .ty n => isiB n d
  | _, _ => none
theorem Vw.tyx {K : PySem.W.Frag} {F H : Hp} (sm : Sub F H) {v : V} {d : D} {c : String} (h : Vw K F H v d) (e : d.cls = some c) : TyX K H v (.type c) := by
  cases d with
  | non => cases e; rw [h.nonE]; exact .base .non
  | bl _ => cases e; rw [h.blE]; exact .base (.bl _)
  | int _ => cases e; rw [h.intE]; exact .base (.int _)
  | str _ => cases e; rw [h.strE.1]; exact .base (.str _)
  | tup _ => cases e; obtain ⟨p, vs, e1, _, ⟨us, e2⟩, _⟩ := h.tupR sm; rw [e1]; exact .fTuple (sm _ _ e2)
  | key _ => cases e; obtain ⟨p, e1, e2, _⟩ := h.keyE; rw [e1]; exact .base (.tup (sm _ _ e2))
  | lst _ => cases e; obtain ⟨p, vs, e1, e2, _⟩ := h.lstE sm; rw [e1]; exact .base (.lst e2)
  | dK _ =>
    cases e; obtain ⟨p, vs, e1, e2, _⟩ := h.dKE sm; rw [e1]
    rcases e2 with e2 | ⟨o, e2⟩
    · exact .base (.dK e2)
    · exact .fDict e2
  | scr ns =>
    cases e
    obtain ⟨p, e1, e2⟩ := h.scrE sm
    rw [e1]
    rcases e2 with (e2 | ⟨o, e2⟩) | ⟨o, its, n, e2, e3, _⟩
    · exact .base (.lst e2)
    · exact .base (.frz e2)
    · exact .kList e2 e3
  | _ => cases e
theorem s_isi {K : PySem.W.Frag} : OpN K .leaf (rIsi K) (two isiD) := by
  refine s_two fun F H x y d e z Q sm h k q ok => ?_
  unfold isiD at q
  split at q
  · rename_i n
    obtain ⟨c, e1, q⟩ := optb q
    obtain ⟨b, e2, q⟩ := optb q
    cases q
    have hy : y = .ty n := by cases k with | rep r => cases r; rfl
    subst hy
    exact ⟨x, _, _, _, b, rfl, .ty _, h.tyx sm e1, kit_ty e2, ok.here sm (.bl _)⟩
  · cases q
section
variable {X : Cx} {ks : List Sh} {W : WX} {pos : Pos}
theorem ev_ty {x : Str} {n : String} (hm : X.mg x = none) (hv : bootBuiltins x = some (.type n)) (hg : Gl X x := by rfl) (hn : x ≠ "__name__" := by decide) (hd : (x == ("__debug__" : Str)) = false := by decide) : EV X ks W (.Name x pos) .leaf (tC (.ty n)) (mC (.ty n)) :=
  ⟨pe_bltn hg hm hv rfl hn hd, snd_c fun _ => .ty _⟩
end

/-! ### methods of texts -/
section
variable {K : PySem.W.Frag}
end

/-! ### repr -/
def keyW : Key → Nat
  | .inl _ => 2000
  | .inr x => 10 * x.length + 2
mutual
/-- no shorter than the text that is shown -/
def D.wt : D → Nat
  | .non => 4 | .bl _ => 5 | .int _ => 2000 | .str x => 10 * x.length + 2
  | .tup xs => wtL xs + 2 * xs.length + 3 | .lst xs => wtL xs + 2 * xs.length + 3
  | .scr ns => 2002 * ns.length + 3
  | .key ks => (ks.map keyW).sum + 2 * ks.length + 3
  | _ => 0
def wtL : List D → Nat
  | [] => 0
  | d :: ds => d.wt + wtL ds
end
def reprOk (d : D) : Bool := d.py && d.toPy.showable && decide (d.toPy.depth ≤ 60) && decide (d.wt ≤ 16777216)
def reprD (d : D) : Option D := if reprOk d = true then some (.rp d.toPy) else none
theorem int_shown {i : Int} (h : i.natAbs.log2 < 1920) : (PyData.shown (.int i)).length ≤ 2000 := by
  have e := PySem.int_text_length_le (k := 1920) (by decide) h
  show (Str.ofString (toString i)).length ≤ 2000
  rw [PyProof.Rows.ofString_len]
  omega
theorem listText_le (ts : List Str) : (listText ts).length ≤ (ts.map (·.length)).sum + 2 * ts.length + 3 := by
  have := PySem.listText_len_le ts
  omega
theorem ints_shown : ∀ {ns : List Int}, PyData.showableAll (ns.map PyData.int) = true → ((PyData.shownAll (ns.map PyData.int)).map (·.length)).sum ≤ 2000 * ns.length ∧ (PyData.shownAll (ns.map PyData.int)).length = ns.length
  | [], _ => ⟨Nat.le_refl _, rfl⟩
  | n :: ns, h => by
    rw [List.map_cons, PyData.showableAll, Bool.and_eq_true, PyData.showable, decide_eq_true_eq] at h
    obtain ⟨h1, h2⟩ := ints_shown h.2
    have h3 := int_shown h.1
    rw [List.map_cons, PyData.shownAll, List.map_cons, List.sum_cons, List.length_cons, List.length_cons, h2]
    exact ⟨by omega, rfl⟩
theorem keys_shown : ∀ {ks : List Key}, ks.all ascK = true → PyData.showableAll (ks.map keyP) = true → ((PyData.shownAll (ks.map keyP)).map (·.length)).sum ≤ (ks.map keyW).sum ∧ (PyData.shownAll (ks.map keyP)).length = ks.length
  | [], _, _ => ⟨Nat.le_refl _, rfl⟩
  | k :: ks, a, h => by
    rw [List.all_cons, Bool.and_eq_true] at a
    rw [List.map_cons, PyData.showableAll, Bool.and_eq_true] at h
    obtain ⟨h1, h2⟩ := keys_shown a.2 h.2
    rw [List.map_cons, PyData.shownAll, List.map_cons, List.sum_cons, List.map_cons, List.sum_cons, List.length_cons, List.length_cons, h2]
    have h3 : (keyP k).shown.length ≤ keyW k := by
      cases k with
      | inl i =>
        have h' := h.1
        rw [keyP, PyData.showable, decide_eq_true_eq] at h'
        exact int_shown h'
      | inr x =>
        rw [keyP, PyData.shown]
        exact PySem.StrLaws.reprText_len x fun c m => Nat.lt_of_lt_of_le ((ascE a.1).1 c m) (by decide)
    exact ⟨by omega, rfl⟩
mutual
theorem Rep.wt {K : PySem.W.Frag} {F : Hp} : ∀ {v : V} {d : D}, Rep K F v d → d.py = true → d.toPy.showable = true → d.toPy.shown.length ≤ d.wt
  | _, _, .non, _, _ => by rw [D.toPy, D.wt]; decide
  | _, _, .bl b, _, _ => by rw [D.toPy, D.wt]; cases b <;> decide
  | _, _, .int i, _, h => by rw [D.toPy, PyData.showable, decide_eq_true_eq] at h; rw [D.toPy, D.wt]; exact int_shown h
  | _, _, .str x a, _, _ => by
    rw [D.toPy, D.wt, PyData.shown]
    exact PySem.StrLaws.reprText_len x fun c m => Nat.lt_of_lt_of_le ((ascE a).1 c m) (by decide)
  | _, _, .tup _ r, q, h => by
    rw [D.py] at q
    rw [D.toPy, PyData.showable] at h
    obtain ⟨h1, h2⟩ := Reps.wt r q h
    rw [D.toPy, D.wt, PyData.shown]
    refine Nat.le_trans (PySem.tupleText_len_le _) ?_
    rw [h2]
    omega
  | _, _, .lst _ r, q, h => by
    rw [D.py] at q
    rw [D.toPy, PyData.showable] at h
    obtain ⟨h1, h2⟩ := Reps.wt r q h
    rw [D.toPy, D.wt, PyData.shown]
    refine Nat.le_trans (listText_le _) ?_
    rw [h2]
    omega
  | _, _, .dK _ _ _, q, _ => by rw [D.py] at q; cases q
  | _, _, .dT _ _ _, q, _ => by rw [D.py] at q; cases q
  | _, _, .scr _, _, h => by
    rw [D.toPy, PyData.showable] at h
    obtain ⟨h1, h2⟩ := ints_shown h
    rw [D.toPy, D.wt, PyData.shown]
    refine Nat.le_trans (listText_le _) ?_
    rw [h2]
    omega
  | _, _, .rp _, q, _ => by rw [D.py] at q; cases q
  | _, _, .ty _, q, _ => by rw [D.py] at q; cases q
  | _, _, .key _ a, _, h => by
    rw [D.toPy, PyData.showable] at h
    obtain ⟨h1, h2⟩ := keys_shown a h
    rw [D.toPy, D.wt, PyData.shown]
    refine Nat.le_trans (PySem.tupleText_len_le _) ?_
    rw [h2]
    omega
theorem Reps.wt {K : PySem.W.Frag} {F : Hp} : ∀ {vs : List V} {ds : List D}, Reps K F vs ds → pyL ds = true → PyData.showableAll (toPyL ds) = true → ((PyData.shownAll (toPyL ds)).map (·.length)).sum ≤ wtL ds ∧ (PyData.shownAll (toPyL ds)).length = ds.length
  | _, _, .nil, _, _ => by rw [toPyL, PyData.shownAll, wtL]; exact ⟨Nat.le_refl _, rfl⟩
  | _, _, .cons r t, q, h => by
    rw [pyL, Bool.and_eq_true] at q
    rw [toPyL, PyData.showableAll, Bool.and_eq_true] at h
    have h1 := Rep.wt r q.1 h.1
    obtain ⟨h2, h3⟩ := Reps.wt t q.2 h.2
    rw [toPyL, PyData.shownAll, wtL, List.map_cons, List.sum_cons, List.length_cons, List.length_cons, h3]
    exact ⟨by omega, rfl⟩
end
abbrev rReprU (K : PySem.W.Frag) : List V → Hp → VK → Prop := fun xs H Q => ∃ v p, xs = [v] ∧ Dp K H v p ∧ p.canLay0 = true ∧ p.showable = true ∧ p.depth ≤ 60 ∧ p.shown.length ≤ sizeLine ∧ Q (.str p.shown) H
theorem cr_repr {X : Cx} (hg : X.A.guards = some []) (hu : X.A.units + 65 < cLine) : CallR X (.builtin "repr") (rReprU X.K) := by
  intro pins s σ H xs us Q I r h
  obtain ⟨v, p, rfl, dp, lay, sh, dep, len, q⟩ := h
  obtain ⟨u, rfl, ru⟩ := vals1 r
  cases dp with
  | non => cases ru; exact PySem.P.repr_of_none ⟨.str _, H, I.tok _, ⟨_, rfl⟩, q⟩
  | bl b => cases ru; exact PySem.P.repr_of_bool ⟨.str _, H, I.tok _, ⟨_, rfl⟩, q⟩
  | int i => obtain ⟨t, rfl⟩ := ru; exact PySem.P.repr_of_int (by rw [PyData.showable, decide_eq_true_eq] at sh; exact sh) ⟨.str _, H, I.tok _, ⟨_, rfl⟩, q⟩
  | str x => obtain ⟨t, rfl⟩ := ru; exact PySem.P.repr_of_str ⟨.str _, H, I.tok _, ⟨_, rfl⟩, q⟩ len
  | lst a b =>
    obtain ⟨as, rd⟩ := Dp.reads I _ _ _ (.lst a b) ru
    cases ru
    exact repr_of_reads' rd sh (PyData.noDict_hsm (PyData.hasDict_of_canLay _ lay)) hg (by omega) (fun _ _ e => e) (fun h' u tk hk => ⟨.str _, H, I.kept hk, ⟨_, rfl⟩, q⟩) len
  | tup a b =>
    obtain ⟨as, rd⟩ := Dp.reads I _ _ _ (.tup a b) ru
    cases ru
    exact repr_of_reads' rd sh (PyData.noDict_hsm (PyData.hasDict_of_canLay _ lay)) hg (by omega) (fun _ _ e => e) (fun h' u tk hk => ⟨.str _, H, I.kept hk, ⟨_, rfl⟩, q⟩) len
theorem s_repr {K : PySem.W.Frag} : OpN K .leaf (rReprU K) (one reprD) := by
  refine s_one fun F H x d z Q sm h e ok => ?_
  unfold reprD at e
  split at e
  · rename_i c
    cases e
    unfold reprOk at c
    rw [Bool.and_eq_true, Bool.and_eq_true, Bool.and_eq_true, decide_eq_true_eq, decide_eq_true_eq] at c
    obtain ⟨⟨⟨c1, c2⟩, c3⟩, c4⟩ := c
    obtain ⟨dp, lay⟩ := (h.whole sm (py_nod c1)).dp c1
    have wt := (h.whole sm (py_nod c1)).wt c1 c2
    exact ⟨x, _, rfl, dp, lay, c2, c3, line_ok (Nat.le_trans wt c4), ok.here sm (.rp _)⟩
  · cases e
end VL
/-! V12: dict displays. -/
namespace VL
open PySem PySem.Spec L2

def OkPs (b : Bd) (F H : Hp) (fp : List Addr) (σ : St) (Q : List (V × V) → Hp → Prop) : R (List (Key × D)) → Prop
  | .no => False
  | .ok ds ρ' => ∀ (kvs : List (Key × V)) F' H' fp', Rel b.K b.ks F' H' ρ' σ fp' → Ext F H fp F' H' fp' → kvs.map Prod.fst = ds.map Prod.fst → Reps b.K F' (kvs.map Prod.snd) (ds.map Prod.snd) → Q (kvs.map fun kv => (kV kv.1, kv.2)) H'
  | .ex e ρ' => OkX b F H fp σ e ρ'
theorem OkPs.ext {b : Bd} {F H F1 H1 : Hp} {fp f1 : List Addr} {σ : St} {Q : List (V × V) → Hp → Prop} (a : Ext F H fp F1 H1 f1) : ∀ {r : R (List (Key × D))}, OkPs b F H fp σ Q r → OkPs b F1 H1 f1 σ Q r
  | .no, h => h
  | .ok d ρ', h => fun v F' H' fp' r x => h v F' H' fp' r (a.trans x)
  | .ex e ρ', h => OkX.ext a h
structure EPs (X : Cx) (ks : List Sh) (W : WX) (pos : Pos) (keys : List (Option Expr)) (values : List Expr) (trs : List (TE × TE)) (m : DEnv → R (List (Key × D))) : Prop where
  pe : PPs X pos keys values trs
  sd : ∀ ρ σ F H fp Q, Rel X.K ks F H ρ σ fp → OkPs (bd X ks W) F H fp σ Q (m ρ) → tPairs trs σ H Q
section
variable {X : Cx} {ks : List Sh} {W : WX} {pos : Pos} {keys : List (Option Expr)} {values : List Expr} {trs : List (TE × TE)} {m : DEnv → R (List (Key × D))} {k v : Expr} {tk tv : TE} {mk mv : ME}
def mPNil : DEnv → R (List (Key × D)) := fun ρ => .ok [] ρ
def mPCons (mk mv : ME) (mr : DEnv → R (List (Key × D))) : DEnv → R (List (Key × D)) := fun ρ => (mk ρ).bind fun k ρ1 => (mv ρ1).bind fun v ρ2 => (mr ρ2).bind fun r ρ3 => match keyK k with
  | some q => .ok ((q, v) :: r) ρ3
  | none => .no
theorem eps_nil : EPs X ks W pos [] [] [] mPNil := ⟨pps_nil, fun ρ σ F H fp Q r h => h [] F H fp r .refl rfl .nil⟩
theorem eps_cons (hk : EV X ks W k .leaf tk mk) (hv : EV X ks W v .leaf tv mv) (hr : EPs X ks W pos keys values trs m) : EPs X ks W pos (some k :: keys) (v :: values) ((tk, tv) :: trs) (mPCons mk mv m) := by
  refine ⟨pps_cons hk.pe hv.pe hr.pe, fun ρ σ F H fp Q r hok => ?_⟩
  unfold mPCons at hok
  refine hk.sd.go r (Ok := OkPs (bd X ks W) F H fp σ Q) hok (fun z => z) (fun _ _ z => z) fun kd ρ1 x F1 H1 fp1 h1 r1 x1 p1 => ?_
  refine hv.sd.go r1 (Ok := OkPs (bd X ks W) F1 H1 fp1 σ Q) (h1.ext x1) (fun z => z) (fun _ _ z => z) fun vd ρ2 y F2 H2 fp2 h2 r2 x2 p2 => ?_
  refine hr.sd ρ2 σ F2 H2 fp2 _ r2 ?_
  have h3 := h2.ext x2
  cases em : m ρ2 with
  | no => rw [em] at h3; exact h3
  | ex e ρ3 => rw [em] at h3; exact h3
  | ok ds ρ3 =>
    rw [em] at h3
    intro kvs F' H' fp' r' x' ek rk
    cases q : keyK kd with
    | none => rw [R.bind_ok, q] at h3; exact (show False from h3).elim
    | some kk =>
      rw [R.bind_ok, q] at h3
      have e1 := keyKE (F := F1) (H := F1) (.rep p1) q
      subst e1
      exact h3 ((kk, y) :: kvs) F' H' fp' r' x' (by rw [List.map_cons, List.map_cons, ek]) (.cons (p2.mono (r2.same x')) rk)
def putAll (ds more : List (Key × D)) : List (Key × D) := more.foldl (fun acc kv => put acc kv.1 kv.2) ds
theorem merge_rel {K : PySem.W.Frag} {F : Hp} : ∀ {more : List (Key × V)} {mds : List (Key × D)} {kvs : List (Key × V)} {ds : List (Key × D)}, more.map Prod.fst = mds.map Prod.fst → Reps K F (more.map Prod.snd) (mds.map Prod.snd) →
    kvs.map Prod.fst = ds.map Prod.fst → Reps K F (kvs.map Prod.snd) (ds.map Prod.snd) → (mergeK kvs more).map Prod.fst = (putAll ds mds).map Prod.fst ∧ Reps K F ((mergeK kvs more).map Prod.snd) ((putAll ds mds).map Prod.snd)
  | [], [], _, _, _, _, e, r => ⟨e, r⟩
  | [], _ :: _, _, _, h, _, _, _ => by cases h
  | _ :: _, [], _, _, h, _, _, _ => by cases h
  | x :: more, y :: mds, kvs, ds, h, q, e, r => by
    have e1 : x.1 = y.1 := (List.cons.inj h).1
    cases q with
    | cons q1 q2 =>
      have h2 := merge_rel (kvs := putK kvs x.1 x.2) (ds := put ds y.1 y.2) (List.cons.inj h).2 q2 (by rw [e1]; exact put_keys _ _ _ e) (by rw [e1]; exact put_reps _ q1 e r)
      exact h2
def mDisp (m : DEnv → R (List (Key × D))) : ME := fun ρ => (m ρ).bind fun ds ρ1 => if ds.length ≤ 15 then .ok (.dK (putAll [] ds)) ρ1 else .no
theorem ev_disp (h : EPs X ks W pos keys values trs m) (hall : keys.all (·.isSome) = true := by rfl) (hl : keys.length = values.length := by rfl) (h0 : keys ≠ [] := by intro z; cases z) (h15 : keys.length ≤ 15 := by decide) : EV X ks W (.Dict keys values pos) (.dic .leaf) (tDisp trs) (mDisp m) := by
  refine ⟨pe_disp h.pe hall hl h0 h15, fun ρ σ F H fp Q r hok p np => ?_⟩
  have nF : F p = none := by
    cases e : F p with
    | none => rfl
    | some y => have q := r.sub _ _ e; rw [np] at q; cases q
  obtain ⟨r1, nd1, x1⟩ := (upd_alcH (o := .dK []) r.sub np).rel (fv := [p]) r (fun y m => by simp at m; subst m; exact np) (by simp)
  have x1' : Ext F H fp F (upd H p (.dK [])) fp := x1.sub fun y m => List.mem_append_left _ m
  have pfp : p ∉ fp := fun m => by obtain ⟨_, o, ho⟩ := r.sl.own p m; rw [np] at ho; cases ho
  refine h.sd ρ σ F _ fp _ r1 ?_
  unfold mDisp at hok
  cases em : m ρ with
  | no => rw [em] at hok; exact (show False from hok).elim
  | ex e ρ3 => rw [em] at hok; exact OkX.ext x1' (show OkX (bd X ks W) F H fp σ e ρ3 from hok)
  | ok ds ρ3 =>
    rw [em, R.bind_ok] at hok
    refine fun kvs F2 H2 fp2 r2 x2 ek rk => ?_
    by_cases hl : ds.length ≤ 15
    · rw [if_pos hl] at hok
      obtain ⟨k1, k2⟩ := x2.keep p _ upd_same pfp
      have lk : kvs.length = ds.length := by have := congrArg List.length ek; simpa using this
      refine ⟨k1, kvs, rfl, by omega, ?_⟩
      obtain ⟨m1, m2⟩ := merge_rel (kvs := []) (ds := []) ek rk rfl .nil
      have pn : p ∉ fp2 := fun m => by
        rcases x2.fr p m with z | z
        · exact pfp z
        · rw [upd_same] at z; cases z
      have nF2 : F2 p = none := k2.trans nF
      have xx := x1'.trans x2
      refine hok (.ref p) F2 _ fp2 [p] ⟨sub_updH r2.sub nF2 (by intro _ z; cases z), r2.nd, r2.sl.frame (fun a o e => e) fun a m => ⟨(r2.sl.own a m).1, ?_⟩⟩ ?_ ⟨fun a o e n => ?_, fun a m => ?_⟩ (.dK nF2 upd_same m1 (ORs.ofReps m2))
      · have : a ≠ p := fun z => pn (z ▸ m)
        rw [upd_ne this]
      · refine List.nodup_append.mpr ⟨r2.nd, by simp, fun a m y m' z => ?_⟩
        simp at m'
        subst m' z
        exact pn m
      · have hne : a ≠ p := fun z => by rw [z, np] at e; cases e
        obtain ⟨q1, q2⟩ := xx.keep a o e n
        rw [upd_ne hne]
        exact ⟨q1, q2⟩
      · rcases List.mem_append.mp m with m | m
        · exact xx.fr a m
        · simp at m; subst m; exact .inr np
    · rw [if_neg hl] at hok; exact (show False from hok).elim
theorem ev_dnewK : EV X ks W (.Dict [] [] pos) (.dic .leaf) tDNewK (mC (.dK [])) := by
  refine ⟨pe_dnewK, fun ρ σ F H fp Q r hok p np => ?_⟩
  have a := upd_alcH (o := .dK []) r.sub np
  have nF : F p = none := by
    cases e : F p with
    | none => rfl
    | some y => have q := r.sub _ _ e; rw [np] at q; cases q
  have hok : OkE (bd X ks W) (.dic .leaf) F H fp σ Q (.ok (.dK []) ρ) := hok
  exact (hok.done r) _ _ _ [p] a (fun x m => by simp at m; subst m; exact np) (by simp) (.dK nF upd_same rfl .nil)
end
end VL
/-! V13: the law's door. -/
namespace VL
open PySem PySem.Spec L2
open PyProof.Rows (IntsAre AllBare IntsAre AllBare)


abbrev scrOb (us : List Value) : Obj := { cls := .type "list", data := .seq us.toArray }
/-- at the door nothing is followed but the script, and it only where the module has not made it -/
def door (K : PySem.W.Frag) (z : Addr) (us : List Value) (ms : List Int) : Hp := fun y => if (K.lookup z).isNone = true ∧ y = z then some (.frz (scrOb us) (.lst (ms.map V.int))) else none
section
variable {P : Program} {w : World} {K : PySem.W.Frag} {z : Addr} {us : List Value} {ms : List Int} {h : Heap}
theorem door_some {y : Addr} {u : HO} (e : door K z us ms y = some u) : K.lookup z = none ∧ y = z ∧ u = .frz (scrOb us) (.lst (ms.map V.int)) := by
  unfold door at e
  split at e
  · rename_i q
    cases e
    exact ⟨Option.isNone_iff_eq_none.mp q.1, q.2, rfl⟩
  · cases e
theorem door_else {y : Addr} (n : y ≠ z) : door K z us ms y = none := if_neg fun q => n q.2
theorem vals_of_ints : ∀ {l : List Value} {i : List Int}, IntsAre l i → Vals (i.map V.int) l
  | _, _, .nil => .nil
  | _, _, .cons _ _ r => .cons ⟨_, rfl⟩ (vals_of_ints r)
theorem door_seq (hK : K.In h) (hz : h.get? z = some (scrOb us)) (hi : IntsAre us ms) (hl : ms.length ≤ sizeLine) : SqL K (door K z us ms) z (ms.map V.int) := by
  have sz : us.length = ms.length := hi.length
  cases q : K.lookup z with
  | none => exact .inl (.inr ⟨scrOb us, if_pos ⟨by rw [q]; rfl, rfl⟩⟩)
  | some o =>
    have e := (hK z o q).symm.trans hz
    cases e
    exact .inr ⟨_, us.toArray, _, q, rfl, rfl, rfl, by rw [List.size_toArray, sz]; exact hl, by simpa using vals_of_ints hi⟩
theorem door_ok (hz : h.get? z = some (scrOb us)) (hi : IntsAre us ms) (hl : ms.length ≤ sizeLine) : HOk P w (door K z us ms) h := fun y u e => by
  obtain ⟨_, rfl, rfl⟩ := door_some e
  exact ⟨hz, by rw [List.length_map]; exact hl, us, _, vals_of_ints hi, hz⟩
/-- what the module has made, and each namespace, stands untold -/
theorem door_in (hK : K.In h) : K.In (hidT h (door K z us ms)) := fun y o e => hidT_get (hK y o e) (by
  cases q : door K z us ms y with
  | none => rfl
  | some u => obtain ⟨k, rfl, _⟩ := door_some q; rw [k] at e; cases e)
theorem door_ns (hz : h.get? z = some (scrOb us)) {y : Addr} {m : Str → Option Value} (n : h.Ns y m) : (hidT h (door K z us ms)).Ns y m := by
  obtain ⟨o, es, ep, e, d, r⟩ := n
  refine ⟨o, es, ep, hidT_get e (door_else fun q => ?_), d, r⟩
  rw [q, hz] at e
  cases e
  cases (show Data.seq us.toArray _ = Data.dict es ep from d)
/-- the call of the law's def, from its promise -/
theorem door_call {mg mb : Str → Option Value} {CX : CXT} {k : Nat} {fa : Addr} {fd : FuncData} {x : Str} {sp : Sp} {t : Shared} (hK : K.In t.heap) (hg : t.heap.Ns mainGlobals mg) (hb : t.heap.Ns builtinsNs mb) (hbb : ∀ y : Str, y ≠ "__name__" → mb y = bootBuiltins y)
    (hm : t.heap.NoLimit) (hgens : t.gens = #[]) (hz : t.heap.get? z = some (scrOb us)) (hi : IntsAre us ms) (hl : ms.length ≤ sizeLine) (hr : Room k callerA)
    (G : ∀ b : Heap, K.In b → b.Ns mainGlobals mg → FnG P w K mg b CX k fa fd [x] sp) (hbind : ∀ (s : Shared) (u : Value), BindsTo s fd ⟨[u], []⟩ [(x, u)])
    (hsp : ∀ H : Hp, SqL K H z (ms.map V.int) → sp [.ref z] H (fun v _ => v = .bl true) fun _ _ _ => False) (hCX : ∀ H e s', CX [] H t (fun _ _ _ => False) e s' → False) :
    codeAny (model P w) callerA (.call (.ref fa) ⟨[.ref z], []⟩) (fun r s' => r = .ok (.ret (.bool true)) ∧ OldK t.heap s'.heap ∧ s'.os = t.os ∧ AllBare s'.gens) t := by
  have e0 : Env0 P w K mg (hidT t.heap (door K z us ms)) callerA [] t (door K z us ms) :=
    { frames := rfl
      mod := ⟨door_in hK, door_ns hz hg, ⟨mb, door_ns hz hb, hbb⟩, let ⟨mc, q1, q2⟩ := hm; ⟨mc, door_ns hz q1, q2⟩⟩
      bs := fun _ _ e => of_hidT e
      bsz := Nat.le_of_eq (hidT_size _ _)
      funs := trivial
      frf := fun y m => absurd (show y ∈ ([] : List Addr) from m) (by simp)
      hok := door_ok hz hi hl
      bare := .of_eq hgens }
  have run := (G _ (door_in hK) (door_ns hz hg)).run callerA [] t (door K z us ms) ⟨[.ref z], []⟩ [.ref z] [.ref z] _ _ hr rfl e0 (hbind t (.ref z)) (.cons rfl .nil) (hsp _ (door_seq hK hz hi hl))
  refine codeAny_mono run fun r s' c => ?_
  match r, c with
  | .error e, c => exact (hCX _ e s' c).elim
  | .ok .next, c => exact False.elim c
  | .ok .brk, c => exact False.elim c
  | .ok .cont, c => exact False.elim c
  | .ok (.ret u), c =>
    obtain ⟨v, J, os, bare, un, okJ, ru, qv⟩ := c
    have qv : v = .bl true := qv
    subst qv
    cases (show u = Value.bool true from ru)
    refine ⟨rfl, OldK.of_keep fun y o e => ?_, os, bare⟩
    cases q : door K z us ms y with
    | none => exact un.keep y o e q (fun m => absurd (show y ∈ ([] : List Addr) from m) (by simp)) (by simp)
    | some u =>
      obtain ⟨_, rfl, rfl⟩ := door_some q
      rw [hz] at e
      cases e
      exact (okJ _ _ (un.frzs _ _ _ q)).1
end
/-- what a law's def must come to -/
theorem spV_law {K : PySem.W.Frag} {mg : Str → Option Value} {g : List D → R D} {H : Hp} {z : Addr} {ms : List Int} (hS : SqL K H z (ms.map V.int)) (hg : ∃ ρ, g [.scr ms] = .ok (.bl true) ρ) :
    spV K mg 1 [.leaf] 0 .leaf g [.ref z] H (fun v _ => v = .bl true) fun _ _ _ => False := by
  obtain ⟨ρ, e⟩ := hg
  refine ⟨rfl, H, [], [.scr ms], ⟨⟨fun _ _ e => e, fun _ _ e => e⟩, List.nodup_nil, RelL.som (f := []) (fp := []) (.leaf (.scr hS)) .nil⟩, ?_⟩
  rw [e]
  intro v F' H' fp' fv _ _ _ o
  obtain ⟨r, _⟩ := o.leafE
  cases r
  rfl
/-- the goal behind the top, from the law's promise -/
theorem walk_V {l : PySem.W.OpenLaw} {n k : Nat} {q : Program} {loose : List Str} {XP : (Str → Option Value) → Heap → Prop} {YP : World → Heap → Prop} {d : DefRec} {K : Params → PySem.W.Frag} {CX : World → CXT} {x : Str} {g : World → (Str → Option Value) → List D → R D}
    (hn : l.most = some n) (hn2 : n ≤ sizeLine) (hdf : d.params.defaults = []) (hr : Room k callerA) (hY : ∀ (w : World) (h : Heap), YP w h → (K w.params).In h)
    (F : ∀ (w : World) (mg : Str → Option Value) (fa : Addr) (h : Heap), (K w.params).In h → h.Ns mainGlobals mg → mg d.name = some (.ref fa) →
      ∃ fd : FuncData, (∀ (s : Shared) (u : Value), BindsTo s fd ⟨[u], []⟩ [(x, u)]) ∧ ∀ b : Heap, (K w.params).In b → b.Ns mainGlobals mg → FnG l.prog w (K w.params) mg b (CX w) k fa fd [x] (spV (K w.params) mg 1 [.leaf] 0 .leaf (g w mg)))
    (hg : ∀ (w : World) (mg : Str → Option Value) (ms : List Int), ms.length ≤ n → ∃ ρ, g w mg [.scr ms] = .ok (.bl true) ρ) (hCX : ∀ (w : World) (H : Hp) (s : Shared) (e : Value) (s' : Shared), CX w [] H s (fun _ _ _ => False) e s' → False) :
    PySem.W.WalkO q loose XP YP l.row.toRowW d [] (fun f vs => PySem.call f vs) := by
  refine Att.attach_call hn hdf fun w s₀ t mg mb fa o pm cd doc z us ms G Y ho hd hcd hmg hobj hints hlen hgens => ?_
  have KX := hY w _ Y
  obtain ⟨fd, hb, hF⟩ := F w mg fa _ KX G.T.g hmg
  exact door_call KX G.T.g G.T.b G.T.builtins G.T.nolimit hgens hobj hints (Nat.le_trans hlen hn2) hr hF hb (fun H hS => spV_law hS (hg w mg ms hlen)) fun H e s' => hCX w H t e s'
end VL
/-! V14: chains, a slot's thing handed on, more. -/
namespace VL
open PySem PySem.Spec L2

section
variable {X : Cx} {ks : List Sh} {W : WX} {a b c : Expr} {ta tb tc : TE} {m n o : ME} {pos : Pos} {r r' : R2} {f g : D → D → Option D}
/-- a op1 b op2 c -/
def mChain (f g : D → D → Option D) (m n o : ME) : ME := fun ρ => (m ρ).bind fun d ρ1 => (n ρ1).bind fun e ρ2 => match f d e with
  | some (.bl true) => (o ρ2).bind fun z ρ3 => R.of (g e z) ρ3
  | some (.bl false) => .ok (.bl false) ρ2
  | _ => .no
theorem snd_chain {B : Bd} (h1 : Op2 B.K .leaf r f) (h2 : Op2 B.K .leaf r' g) (ha : SndE B .leaf ta m) (hb : SndE B .leaf tb n) (hc : SndE B .leaf tc o) : SndE B .leaf (tChain r r' ta tb tc) (mChain f g m n o) := by
  intro ρ σ F H fp Q r0 hok
  unfold mChain at hok
  refine ha.go r0 (Ok := OkE B .leaf F H fp σ Q) hok (fun z => z) (fun _ _ z => z) fun d ρ1 x F1 H1 fp1 k1 r1 x1 p1 => ?_
  refine hb.go r1 (Ok := OkE B .leaf F1 H1 fp1 σ Q) (k1.ext x1) (fun z => z) (fun _ _ z => z) fun e ρ2 y F2 H2 fp2 k2 r2 x2 p2 => ?_
  have k3 := k2.ext x2
  have go : ∀ k : Bool, f d e = some (.bl k) → OkE B .leaf F2 H2 fp2 σ Q (if k = true then (o ρ2).bind fun z ρ3 => R.of (g e z) ρ3 else .ok (.bl false) ρ2) → r x y H2 (fun z H3 => ∃ k, z = .bl k ∧ (if k = true then tc σ H3 fun w' H4 => r' y w' H4 Q else Q (.bl false) H3)) := by
    intro k ef hk
    refine h1 F2 H2 x y d e _ _ r2.sub (.rep (p1.mono (r1.same x2))) (.rep p2) ef fun v F3 H3 fv al nf nd ov => ?_
    obtain ⟨rv, rfl⟩ := ov.leafE
    cases rv
    obtain ⟨r3, _, x3⟩ := al.rel r2 nf nd
    rw [List.append_nil] at x3
    refine ⟨k, rfl, ?_⟩
    have hk := hk.ext x3
    cases k with
    | false =>
      rw [if_neg Bool.false_ne_true] at hk ⊢
      exact (hk.done r3).here r3.sub (.bl _)
    | true =>
      rw [if_pos rfl] at hk ⊢
      refine hc.go r3 (Ok := OkE B .leaf F3 H3 fp2 σ Q) hk (fun z => z) (fun _ _ z => z) fun z ρ4 w' F4 H4 fp4 k4 r4 x4 p4 => ?_
      cases eg : g e z with
      | none => rw [eg] at k4; exact (show False from k4).elim
      | some q =>
        rw [eg] at k4
        exact h2 F4 H4 y w' e z q Q r4.sub (.rep ((p2.mono (al.same r2.sub)).mono (r3.same x4))) (.rep p4) eg ((k4.ext x4).done r4)
  cases ef : f d e with
  | none => rw [ef] at k3; exact (show False from k3).elim
  | some q =>
    rw [ef] at k3
    cases q with
    | bl k => cases k with
      | true => exact go true ef k3
      | false => exact go false ef k3
    | _ => exact (show False from k3).elim
theorem et_chain {op op' : CmpOp} (ho : OpR X (compareOp op) r) (hs : Op2 X.K .leaf r f) (ho' : OpR X (compareOp op') r') (hs' : Op2 X.K .leaf r' g) (ha : EV X ks W a .leaf ta m) (hb : EV X ks W b .leaf tb n) (hc : EV X ks W c .leaf tc o)
    (hm : lastMarks [op, op'] [b, c] = false := by with_unfolding_all rfl) : ET X ks W (.Compare a [op, op'] [b, c] pos) (tTest (tChain r r' ta tb tc)) (mTest (mChain f g m n o)) :=
  ⟨pt_chain ho ho' ha.pe hb.pe hc.pe hm, snd_test (snd_chain (B := bd X ks W) hs hs' ha.sd hb.sd hc.sd)⟩

/-! ### a slot's owned thing handed on: the slot is not looked at again -/
def mMove (i : Nat) : ME := fun ρ => (R.of (own ρ i) ρ).bind fun d _ => .ok d (ρ.set i none)
theorem ev_move {x : Str} {sh : Sh} (i : Nat) (hk : ks[i]? = some sh := by rfl) (hN : X.N[i]? = some x := by rfl) (hv : Vis X.env.scope x := by first | exact Or.inl rfl | exact Or.inr (Or.inl rfl) | exact Or.inr (Or.inr rfl)) (hd : (x == ("__debug__" : Str)) = false := by decide)
    (hcd : (x == ("__classdict__" : Str)) = false := by decide) : EV X ks W (.Name x pos) sh (tVar i) (mMove i) := by
  refine ⟨pe_var hN hv hd hcd, fun ρ σ F H fp Q r h => ?_⟩
  unfold mMove at h
  cases e : own ρ i with
  | none => rw [e] at h; exact (show False from h).elim
  | some d =>
    rw [e] at h
    obtain ⟨v, f, g, s1, o1, sl, pm⟩ := r.sl.split hk (getE e)
    refine ⟨v, s1, ?_⟩
    have nd := pm.nodup_iff.mp r.nd
    have ndc := List.nodup_append.mp nd
    refine h v F H g f ⟨r.sub, ndc.2.1, sl⟩ (List.nodup_append.mpr ⟨ndc.2.1, ndc.1, fun y m z m2 q => ndc.2.2 z m2 y m q.symm⟩) ⟨fun y ob e n => ⟨e, rfl⟩, fun y m => .inl (pm.symm.subset ?_)⟩ o1
    rcases List.mem_append.mp m with m | m
    · exact List.mem_append_right _ m
    · exact List.mem_append_left _ m
end
theorem Cl.mono {X : Cx} {CX : CXT} {j k : Nat} {x : Str} {n : Nat} {psh : List Sh} {fx : Nat} {rsh : Sh} {g : List D → R D} (c : Cl X CX j x n psh fx rsh g) (h : j ≤ k) : Cl X CX k x n psh fx rsh g := by
  obtain ⟨f, fd, ps, G, hm, hk, hb⟩ := c.ex
  exact ⟨f, fd, ps, G.mono h, hm, hk, hb⟩
/-- .. without a context: P, w, K, mg, base -/
structure Clp (P : Program) (w : World) (K : PySem.W.Frag) (mg : Str → Option Value) (base : Heap) (CX : CXT) (k : Nat) (x : Str) (n : Nat) (psh : List Sh) (fx : Nat) (rsh : Sh) (g : List D → R D) : Prop where
  ex : ∃ f fd ps, FnG P w K mg base CX k f fd ps (spV K mg n psh fx rsh g) ∧ mg x = some (.ref f) ∧ PySem.W.keepIn K (.ref f) = true ∧ Binds K fd ps []
theorem Clp.cl {P : Program} {w : World} {K : PySem.W.Frag} {mg : Str → Option Value} {base : Heap} {CX : CXT} {j k : Nat} {x : Str} {n : Nat} {psh : List Sh} {fx : Nat} {rsh : Sh} {g : List D → R D} (c : Clp P w K mg base CX j x n psh fx rsh g) (h : j ≤ k)
    {X : Cx} (h1 : X.prog = P) (h2 : X.w = w) (h3 : X.K = K) (h4 : X.mg = mg) (h5 : X.base = base) : Cl X CX k x n psh fx rsh g := by
  subst h1 h2 h3 h4 h5
  obtain ⟨f, fd, ps, G, hm, hk, hb⟩ := c.ex
  exact ⟨f, fd, ps, G.mono h, hm, hk, hb⟩
theorem hu65 {A : Around} {k : Nat} (r : Room k A) : A.units + 65 < cLine := by have := r.un; omega
theorem hu64 {A : Around} {k : Nat} (r : Room k A) : A.units + 64 < cLine := by have := r.un; omega
theorem hu1 {A : Around} {k : Nat} (r : Room k A) : A.units + 1 < cLine := by have := r.un; omega
end VL
/-! V15: names for mirrors; small rules for the printed proofs. -/
namespace VL
open PySem PySem.Spec L2

def mV (m : ME) : MO := fun ρ => (m ρ).bind fun d ρ1 => .ok (.v d) ρ1
def mS (i : Nat) : MO := fun ρ => (R.of ((ρ[i]?).bind id) ρ).bind fun _ ρ1 => .ok (.s i) ρ1
def mLs (m : ME) : MA := fun ρ => (m ρ).bind asL
def mTs (m : ME) : MA := fun ρ => (m ρ).bind asT
def mSs (m : ME) : MA := fun ρ => (m ρ).bind asS
def mR1 (m : MA) : MA := fun ρ => (m ρ).bind mRng1
def mR2 (m : MA) : MA := fun ρ => (m ρ).bind mRng2
def mLoop (k : D → DEnv → Option DEnv) (mb : MS) (ma : MA) : MS := fun ρ => (ma ρ).bind fun ds ρ1 => mFor k mb ds ρ1
def mM1 (f : D → D → Option D) (m : ME) (mp : MO) : ME := fun ρ => (m ρ).bind fun d ρ1 => (match d with | .str x => (mp ρ1).bind fun o ρ2 => R.of ((o.get ρ2).bind fun e => f (.str x) e) ρ2 | _ => .no)
def nnx (m : MS) : Prop := ∀ ρ ρ', m ρ ≠ .ok .nx ρ'
theorem nnx_ret (m : ME) : nnx (mRet m) := fun ρ ρ' h => by
  unfold mRet at h
  cases e : m ρ with
  | no => rw [e] at h; cases h
  | ex x ρ1 => rw [e] at h; cases h
  | ok d ρ1 => rw [e] at h; cases h
theorem hk1 {ks : List Sh} {i : Nat} (h : ks[i]? = some .leaf) : ∀ v ∈ [i], ks[v]? = some .leaf := fun v m => by
  cases List.mem_singleton.mp m; exact h
theorem clp_of {P : Program} {w : World} {K : PySem.W.Frag} {mg : Str → Option Value} {base : Heap} {CX : CXT} {k n : Nat} {f : Addr} {fd : FuncData} {ps : List Str} {psh : List Sh} {fx : Nat} {rsh : Sh} {g : List D → R D} {x : Str}
    (G : FnG P w K mg base CX k f fd ps (spV K mg n psh fx rsh g)) (hm : mg x = some (.ref f)) (hk : PySem.W.keepIn K (.ref f) = true) (hb : Binds K fd ps []) : Clp P w K mg base CX k x n psh fx rsh g := ⟨f, fd, ps, G, hm, hk, hb⟩
end VL
namespace VL
open PySem PySem.Spec L2
/-! ### the rules with the module's part named (within a comprehension's block it must not hang on the block) -/
section
variable {X : Cx} (K : PySem.W.Frag) (hK : X.K = K)
include hK
theorem k_eq (hu : X.A.units + 65 < cLine) : OpR X (compareOp .Eq) (rEqU K) := hK ▸ op_eqU hu
theorem k_ne (hu : X.A.units + 65 < cLine) : OpR X (compareOp .NotEq) (rNeU K) := hK ▸ op_neU hu
theorem k_in (hu : X.A.units + 64 < cLine) : OpR X (compareOp .In) (rInU K false) := hK ▸ op_inU hu
theorem k_nin (hu : X.A.units + 64 < cLine) : OpR X (compareOp .NotIn) (rInU K true) := hK ▸ op_ninU hu
theorem k_add : OpR X (binaryOp .Add) (rAddA K) := hK ▸ op_addA
theorem k_mul : OpR X (binaryOp .Mult) (rMulA K) := hK ▸ op_mulA
theorem k_ix (hu : X.A.units + 1 < cLine) : IxR X (rIxA K) := hK ▸ ix_all hu
theorem k_sl : SlR X (rSlU K) := hK ▸ sl_all
theorem k_len : CallR X (.builtin "len") (rLenU K) := hK ▸ cr_len
theorem k_all (hc : X.calm = true) : CallR X (.builtin "all") (rAll K) := hK ▸ cr_all hc
theorem k_repr (hg : X.A.guards = some []) (hu : X.A.units + 65 < cLine) : CallR X (.builtin "repr") (rReprU K) := hK ▸ cr_repr hg hu
theorem k_isi : CallR X (.builtin "isinstance") (rIsi K) := hK ▸ call_isi
abbrev rListOf (K : PySem.W.Frag) : List V → Hp → VK → Prop := fun xs H Q => ∃ p ys, xs = [.ref p] ∧ (SqL K H p ys ∨ SqT K H p ys) ∧ ∀ l, H l = none → Q (.ref l) (upd H l (.lst ys))
theorem k_listOf : CallR X (.type "list") (rListOf K) := hK ▸ call_list_of
end
section
variable {X : Cx} {ks : List Sh} {W : WX} {CX : CXT} {k n : Nat} {rsh s0 : Sh} {g : List D → R D} {x : Str} {p pos : Pos} {e a : Expr} {es : List Expr} {t : TA} {ma : MA} {ta te : TE} {me : ME} {tg : Expr} (K : PySem.W.Frag) (hK : X.K = K)
include hK
theorem kv_tupleOf {mo : MO} (ha : EO X ks W a ta mo) (hm : X.mg "tuple" = none) (hg : Gl X "tuple" := by rfl) (na : starEach [a] X.env = (false, eval a X.env) :: starEach [] X.env := by rfl) :
    EV X ks W (.Call (.Name "tuple" p) [a] [] pos) .leaf (tThen ta (kTupF K)) (mOp1 tupleD mo) := by subst hK; exact ev_tupleOf ha hm hg na
theorem kv_list (h : EV X ks W e .leaf te me) : IV X ks W tg e (iList K te) (mLs me) := by subst hK; exact iv_list h
theorem kv_tup (h : EV X ks W e .leaf te me) : IV X ks W tg e (iTup K te) (mTs me) := by subst hK; exact iv_tup h
theorem kv_gtup {T : St → St → Prop} {ts : List Expr} {gs : TGs} {n : Nat} {j : Nat} {m : List D → DEnv → Option DEnv} (hc : X.calm = true) (h : GVs X ks T ts gs m) (hn : (assignEach ts X.env).length = n := by rfl) (hst : (assignEach ts X.env).findIdx? (·.1) = none := by rfl) :
    GV X ks T (.Tuple ts j pos) (gTup K n gs) (kTup' n m) := by subst hK; exact gv_tup hc h hn hst
theorem kv_call0 (mg : Str → Option Value) (hmg : X.mg = mg) (c : Cl X CX k x n (leaves n) 0 rsh g) (hx : ∀ σ, PassesAt CX X σ (WE W σ)) (hr : Room k X.A) (hgd : X.A.guards = some []) (ha : EA X ks W (e :: es) t ma) (hg : Gl X x := by rfl) (hdb : (x == ("__debug__" : Str)) = false := by decide)
    (he : starEach (e :: es) X.env = (false, eval e X.env) :: starEach es X.env := by rfl) (hpl : (backTo pos (starEach es X.env)).any (·.1) = false := by rfl) : EV X ks W (.Call (.Name x p) (e :: es) [] pos) rsh (tCallS (spV K mg n (leaves n) 0 rsh g) (WE W) t) (mCall0 n g ma) := by
  subst hK hmg; exact ev_call0 c hx hr hgd ha hg hdb he hpl
theorem kv_call1 {y : Str} {p' : Pos} (mg : Str → Option Value) (hmg : X.mg = mg) (i : Nat) (c : Cl X CX k x (n + 1) (s0 :: leaves n) 1 rsh g) (hx : ∀ σ, PassesAt CX X σ (WE W σ)) (hr : Room k X.A) (hgd : X.A.guards = some []) (ha : EA X ks W es t ma) (hky : ks[i]? = some s0 := by rfl) (hN : X.N[i]? = some y := by rfl)
    (hv : Vis X.env.scope y := by first | exact Or.inl rfl | exact Or.inr (Or.inl rfl) | exact Or.inr (Or.inr rfl)) (hd : (y == ("__debug__" : Str)) = false := by decide) (hcd : (y == ("__classdict__" : Str)) = false := by decide) (hg : Gl X x := by rfl) (hdb : (x == ("__debug__" : Str)) = false := by decide)
    (he : starEach (.Name y p' :: es) X.env = (false, eval (.Name y p') X.env) :: starEach es X.env := by rfl) (hpl : (backTo pos (starEach es X.env)).any (·.1) = false := by rfl) :
    EV X ks W (.Call (.Name x p) (.Name y p' :: es) [] pos) rsh (tCallS (spV K mg (n + 1) (s0 :: leaves n) 1 rsh g) (WE W) (tCons (tVar i) t)) (mCall1 i n g ma) := by
  subst hK hmg; exact ev_call1 i c hx hr hgd ha hky hN hv hd hcd hg hdb he hpl
end
end VL
/-! V16: reading mirrors. -/
namespace VL
open PySem PySem.Spec L2

section
variable (ρ : DEnv) (i j : Nat) (m n o : ME) (a b c : MO) (d : D)
@[simp] theorem e_var : mVar i ρ = R.of ((ρ[i]?).bind id) ρ := rfl
@[simp] theorem e_C : mC d ρ = .ok d ρ := rfl
@[simp] theorem e_V : mV m ρ = (m ρ).bind fun d ρ1 => .ok (.v d) ρ1 := rfl
@[simp] theorem e_S : mS i ρ = (R.of ((ρ[i]?).bind id) ρ).bind fun _ ρ1 => .ok (.s i) ρ1 := rfl
@[simp] theorem e_getv : (Opd.v d).get ρ = some d := rfl
@[simp] theorem e_gets : (Opd.s i).get ρ = (ρ[i]?).bind id := rfl
@[simp] theorem e_own : own ρ i = (ρ[i]?).bind id := rfl
@[simp] theorem e_op1 (f : D → Option D) : mOp1 f a ρ = (a ρ).bind fun x ρ1 => R.of ((x.get ρ1).bind f) ρ1 := rfl
@[simp] theorem e_op2 (f : D → D → Option D) : mOp2 f a b ρ = (a ρ).bind fun x ρ1 => (b ρ1).bind fun y ρ2 => R.of ((x.get ρ2).bind fun d => (y.get ρ2).bind fun e => f d e) ρ2 := rfl
@[simp] theorem e_opN (f : List D → Option D) (t : DEnv → R (List Opd)) : mOpN f t ρ = (t ρ).bind fun xs ρ1 => R.of ((getAll xs ρ1).bind f) ρ1 := rfl
@[simp] theorem e_getA0 : getAll [] ρ = some [] := rfl
@[simp] theorem e_getA (x : Opd) (xs : List Opd) : getAll (x :: xs) ρ = (x.get ρ).bind fun d => (getAll xs ρ).bind fun ds => some (d :: ds) := rfl
@[simp] theorem e_oNil : mONil ρ = .ok [] ρ := rfl
@[simp] theorem e_oCons (t : DEnv → R (List Opd)) : mOCons a t ρ = (a ρ).bind fun d ρ1 => (t ρ1).bind fun ds ρ2 => .ok (d :: ds) ρ2 := rfl
@[simp] theorem e_nil : mNil ρ = .ok [] ρ := rfl
@[simp] theorem e_cons (t : MA) : mCons m t ρ = (m ρ).bind fun d ρ1 => (t ρ1).bind fun ds ρ2 => .ok (d :: ds) ρ2 := rfl
@[simp] theorem e_tup (t : MA) : mTup t ρ = (t ρ).bind fun ds ρ1 => if ds.length ≤ 16777216 then .ok (.tup ds) ρ1 else .no := rfl
@[simp] theorem e_lst (t : MA) : mLst t ρ = (t ρ).bind fun ds ρ1 => if ds.length ≤ 16777216 then .ok (.lst ds) ρ1 else .no := rfl
@[simp] theorem e_test : mTest m ρ = (m ρ).bind asB := rfl
@[simp] theorem e_asB (k : Bool) : asB (.bl k) ρ = .ok k ρ := rfl
@[simp] theorem e_not (t : MT) : mNot t ρ = (t ρ).bind fun c ρ1 => .ok (!c) ρ1 := rfl
@[simp] theorem e_and (t u : MT) : mAnd t u ρ = (t ρ).bind fun c ρ1 => if c = true then u ρ1 else .ok false ρ1 := rfl
@[simp] theorem e_or (t u : MT) : mOr t u ρ = (t ρ).bind fun c ρ1 => if c = true then .ok true ρ1 else u ρ1 := rfl
@[simp] theorem e_andV : mAndV m n ρ = ((m ρ).bind asB).bind fun c ρ1 => if c = true then n ρ1 else .ok (.bl false) ρ1 := rfl
@[simp] theorem e_orV : mOrV m n ρ = ((m ρ).bind asB).bind fun c ρ1 => if c = true then .ok (.bl true) ρ1 else n ρ1 := rfl
@[simp] theorem e_notV : mNotV m ρ = ((m ρ).bind asB).bind fun c ρ1 => .ok (.bl (!c)) ρ1 := rfl
@[simp] theorem e_if (t : MT) : mIf t m n ρ = (t ρ).bind fun k ρ1 => if k = true then m ρ1 else n ρ1 := rfl
@[simp] theorem e_chain (f g : D → D → Option D) : mChain f g m n o ρ = (m ρ).bind fun d ρ1 => (n ρ1).bind fun e ρ2 => match f d e with
  | some (.bl true) => (o ρ2).bind fun z ρ3 => R.of (g e z) ρ3
  | some (.bl false) => .ok (.bl false) ρ2
  | _ => .no := rfl
@[simp] theorem e_sl (f : Option Int → Option Int → D → Option D) (l h : DEnv → R (Option Int)) : mSl f a l h ρ = (a ρ).bind fun o ρ1 => (l ρ1).bind fun i ρ2 => (h ρ2).bind fun j ρ3 => R.of ((o.get ρ3).bind (f i j)) ρ3 := rfl
@[simp] theorem e_noPart : mNoPart ρ = .ok none ρ := rfl
@[simp] theorem e_part : mPart m ρ = (m ρ).bind asI := rfl
@[simp] theorem e_asI (k : Int) : asI (.int k) ρ = .ok (some k) ρ := rfl
@[simp] theorem e_M1 (f : D → D → Option D) : mM1 f m b ρ = (m ρ).bind fun d ρ1 => (match d with | .str x => (b ρ1).bind fun o ρ2 => R.of ((o.get ρ2).bind fun e => f (.str x) e) ρ2 | _ => .no) := rfl
@[simp] theorem e_pNil : mPNil ρ = .ok [] ρ := rfl
@[simp] theorem e_pCons (t : DEnv → R (List (Key × D))) : mPCons m n t ρ = (m ρ).bind fun k ρ1 => (n ρ1).bind fun v ρ2 => (t ρ2).bind fun r ρ3 => match keyK k with
  | some q => .ok ((q, v) :: r) ρ3
  | none => .no := rfl
@[simp] theorem e_disp (t : DEnv → R (List (Key × D))) : mDisp t ρ = (t ρ).bind fun ds ρ1 => if ds.length ≤ 15 then .ok (.dK (putAll [] ds)) ρ1 else .no := rfl
@[simp] theorem e_move : mMove i ρ = (R.of (own ρ i) ρ).bind fun d _ => .ok d (ρ.set i none) := rfl
@[simp] theorem e_Ls : mLs m ρ = (m ρ).bind asL := rfl
@[simp] theorem e_Ts : mTs m ρ = (m ρ).bind asT := rfl
@[simp] theorem e_Ss : mSs m ρ = (m ρ).bind asS := rfl
@[simp] theorem e_asL (ds : List D) : asL (.lst ds) ρ = .ok ds ρ := rfl
@[simp] theorem e_asT (ds : List D) : asT (.tup ds) ρ = .ok ds ρ := rfl
@[simp] theorem e_asS (x : Str) : asS (.str x) ρ = .ok (signs x) ρ := rfl
@[simp] theorem e_R1 (t : MA) : mR1 t ρ = (t ρ).bind mRng1 := rfl
@[simp] theorem e_R2 (t : MA) : mR2 t ρ = (t ρ).bind mRng2 := rfl
@[simp] theorem e_rng1 (k : Int) : mRng1 [.int k] ρ = if -1000000 ≤ k ∧ k ≤ 1000000 then .ok (rangeD 0 k.toNat) ρ else .no := rfl
@[simp] theorem e_rng2 (k l : Int) : mRng2 [.int k, .int l] ρ = if -1000000 ≤ k ∧ k ≤ 1000000 ∧ -1000000 ≤ l ∧ l ≤ 1000000 then .ok (rangeD k (l - k).toNat) ρ else .no := rfl
@[simp] theorem e_call0 (k : Nat) (g : List D → R D) (t : MA) : mCall0 k g t ρ = (t ρ).bind fun ds ρ1 => if ds.length = k then (match g ds with | .ok d _ => .ok d ρ1 | .ex e _ => .ex e ρ1 | .no => .no) else .no := rfl
@[simp] theorem e_call1 (k : Nat) (g : List D → R D) (t : MA) : mCall1 i k g t ρ = (R.of (own ρ i) ρ).bind fun _ _ => (t ρ).bind fun ds ρ1 => (R.of (own ρ1 i) ρ1).bind fun d0 _ =>
  if ds.length = k then (match g (d0 :: ds) with | .ok d [some d1] => .ok d (ρ1.set i (some d1)) | .ex e [some d1] => .ex e (ρ1.set i (some d1)) | _ => .no) else .no := rfl
@[simp] theorem e_nx : mNx ρ = .ok .nx ρ := rfl
@[simp] theorem e_seq (s t : MS) : mSeq s t ρ = (s ρ).bind fun f ρ1 => match f with | .nx => t ρ1 | .rt d => .ok (.rt d) ρ1 := rfl
@[simp] theorem e_ifS (t : MT) (u v : MS) : mIfS t u v ρ = (t ρ).bind fun k ρ1 => if k = true then u ρ1 else v ρ1 := rfl
@[simp] theorem e_set : mSet i m ρ = (m ρ).bind fun d ρ1 => .ok .nx (ρ1.set i (some d)) := rfl
@[simp] theorem e_ret : mRet m ρ = (m ρ).bind fun d ρ1 => .ok (.rt d) ρ1 := rfl
@[simp] theorem e_drop : mDrop m ρ = (m ρ).bind fun _ ρ1 => .ok .nx ρ1 := rfl
@[simp] theorem e_put : mPut i m n ρ = (n ρ).bind fun v ρ1 => (R.of (own ρ1 i) ρ1).bind fun _ _ => (m ρ1).bind fun k ρ2 => (R.of ((own ρ2 i).bind fun d => putD d k v) ρ2).bind fun d' ρ3 => .ok .nx (ρ3.set i (some d')) := rfl
@[simp] theorem e_asg (k : D → DEnv → Option DEnv) : mAsg k m ρ = (m ρ).bind fun d ρ1 => match k d ρ1 with | some ρ2 => .ok .nx ρ2 | none => .no := rfl
@[simp] theorem e_kName : kName i d ρ = some (ρ.set i (some d)) := rfl
@[simp] theorem e_kNil : kNil [] ρ = some ρ := rfl
@[simp] theorem e_kCons (k : D → DEnv → Option DEnv) (l : List D → DEnv → Option DEnv) (ds : List D) : kCons k l (d :: ds) ρ = (k d ρ).bind fun ρ1 => l ds ρ1 := rfl
@[simp] theorem e_kTup (l : List D → DEnv → Option DEnv) (ds : List D) : kTup' i l (.tup ds) ρ = if ds.length = i then l ds ρ else none := rfl
@[simp] theorem e_loop (k : D → DEnv → Option DEnv) (s : MS) (t : MA) : mLoop k s t ρ = (t ρ).bind fun ds ρ1 => mFor k s ds ρ1 := rfl
@[simp] theorem e_run (N fx : Nat) (s : MS) (ds : List D) : runF N fx s ds = fin fx (s (ds.map some ++ List.replicate (N - ds.length) none)) := rfl
@[simp] theorem e_fin1 (fx : Nat) : fin fx (.ok .nx ρ) = .ok .non (ρ.take fx) := rfl
@[simp] theorem e_fin2 (fx : Nat) : fin fx (.ok (.rt d) ρ) = .ok d (ρ.take fx) := rfl
@[simp] theorem e_mtL (f : List D → List D → Option (D × List D)) (t : MA) : mMtL i f t ρ = match own ρ i with
  | some (.lst _) => (t ρ).bind fun es ρ1 => (match own ρ1 i with
    | some (.lst ds) => (match f ds es with | some (z, ds') => .ok z (ρ1.set i (some (.lst ds'))) | none => .no)
    | _ => .no)
  | _ => .no := rfl
@[simp] theorem e_yes : mYes ρ = .ok true ρ := rfl
@[simp] theorem e_one (f : D → Option D) : one f [d] = f d := rfl
@[simp] theorem e_two (f : D → D → Option D) (e : D) : two f [d, e] = f d e := rfl
end
@[simp] theorem d_sub (i j : Int) : subD (.int i) (.int j) = some (.int (i - j)) := rfl
@[simp] theorem d_add (i j : Int) : addD (.int i) (.int j) = some (.int (i + j)) := rfl
@[simp] theorem d_addS (x y : Str) : addD (.str x) (.str y) = if x.length + y.length ≤ 16777216 then some (.str (x ++ y)) else none := rfl
@[simp] theorem d_addL (x y : List D) : addD (.lst x) (.lst y) = if x.length + y.length ≤ 16777216 then some (.lst (x ++ y)) else none := rfl
@[simp] theorem d_addT (x y : List D) : addD (.tup x) (.tup y) = if x.length + y.length ≤ 16777216 then some (.tup (x ++ y)) else none := rfl
@[simp] theorem d_mul (i j : Int) : mulD (.int i) (.int j) = if mulOk i j = true then some (.int (i * j)) else none := rfl
@[simp] theorem d_mod (i j : Int) : modD (.int i) (.int j) = if 0 < j then some (.int (i % j)) else none := rfl
@[simp] theorem d_fdiv (i j : Int) : fdivD (.int i) (.int j) = if 0 < j ∧ j < 10 ^ 30 then some (.int (i / j)) else none := rfl
@[simp] theorem d_pow (i j : Int) : powD (.int i) (.int j) = if 0 ≤ j ∧ j ≤ 1000 ∧ i.natAbs < 2 ^ 64 then some (.int (i ^ j.toNat)) else none := rfl
@[simp] theorem d_lt (i j : Int) : ltD (.int i) (.int j) = some (.bl (decide (i < j))) := rfl
@[simp] theorem d_le (i j : Int) : leD (.int i) (.int j) = some (.bl (decide (i ≤ j))) := rfl
@[simp] theorem d_gt (i j : Int) : gtD (.int i) (.int j) = some (.bl (decide (j < i))) := rfl
@[simp] theorem d_ge (i j : Int) : geD (.int i) (.int j) = some (.bl (decide (j ≤ i))) := rfl
@[simp] theorem d_eqI (i j : Int) : eqD (.int i) (.int j) = some (.bl (decide (i = j))) := by
  have h : eqOk (.int i) (.int j) = true := by simp [eqOk, D.py, D.toPy, PyData.depth]
  have e : eqB (.int i) (.int j) = some (eqv (.int i) (.int j)) := by
    show (if eqOk (.int i) (.int j) = true then some (eqv (.int i) (.int j)) else none) = _
    rw [if_pos h]
  unfold eqD
  rw [e]
  unfold eqv
  rw [D.toPy, D.toPy, PyData.eqv]
  by_cases q : i = j
  · subst q; simp
  · simp [q]
/-! ### what a result comes to -/
def Sat {α : Type} (r : R α) (Q : α → DEnv → Prop) : Prop := ∃ a ρ, r = .ok a ρ ∧ Q a ρ
theorem sat_of {α : Type} {r : R α} {a : α} {ρ : DEnv} {Q : α → DEnv → Prop} (e : r = .ok a ρ) (h : Q a ρ) : Sat r Q := ⟨a, ρ, e, h⟩
theorem Sat.bind {α β : Type} {r : R α} {f : α → DEnv → R β} {Q : β → DEnv → Prop} (h : Sat r fun a ρ => Sat (f a ρ) Q) : Sat (r.bind f) Q := by
  obtain ⟨a, ρ, rfl, h⟩ := h; exact h
theorem Sat.mono {α : Type} {r : R α} {Q Q' : α → DEnv → Prop} (h : Sat r Q) (k : ∀ a ρ, Q a ρ → Q' a ρ) : Sat r Q' := by
  obtain ⟨a, ρ, rfl, h⟩ := h; exact ⟨a, ρ, rfl, k a ρ h⟩
theorem sat_seq {m n : MS} {ρ : DEnv} {Q : Fl → DEnv → Prop} (h : Sat (m ρ) fun f ρ1 => f = .nx ∧ Sat (n ρ1) Q) : Sat (mSeq m n ρ) Q := by
  obtain ⟨a, ρ1, e, rfl, h⟩ := h
  rw [e_seq, e]; exact h
theorem sat_set {i : Nat} {m : ME} {ρ : DEnv} {Q : Fl → DEnv → Prop} (h : Sat (m ρ) fun d ρ1 => Q .nx (ρ1.set i (some d))) : Sat (mSet i m ρ) Q := by
  obtain ⟨a, ρ1, e, h⟩ := h
  rw [e_set, e]; exact ⟨_, _, rfl, h⟩
theorem sat_drop {m : ME} {ρ : DEnv} {Q : Fl → DEnv → Prop} (h : Sat (m ρ) fun _ ρ1 => Q .nx ρ1) : Sat (mDrop m ρ) Q := by
  obtain ⟨a, ρ1, e, h⟩ := h
  rw [e_drop, e]; exact ⟨_, _, rfl, h⟩
theorem sat_ifS {c : MT} {m n : MS} {ρ : DEnv} {Q : Fl → DEnv → Prop} (h : Sat (c ρ) fun k ρ1 => if k = true then Sat (m ρ1) Q else Sat (n ρ1) Q) : Sat (mIfS c m n ρ) Q := by
  obtain ⟨a, ρ1, e, h⟩ := h
  rw [e_ifS, e]
  cases a with
  | true => exact h
  | false => exact h
theorem sat_ret {m : ME} {ρ : DEnv} {Q : Fl → DEnv → Prop} (h : Sat (m ρ) fun d ρ1 => Q (.rt d) ρ1) : Sat (mRet m ρ) Q := by
  obtain ⟨a, ρ1, e, h⟩ := h
  rw [e_ret, e]; exact ⟨_, _, rfl, h⟩
/-- a loop by what holds at each turn -/
theorem sat_for {k : D → DEnv → Option DEnv} {body : MS} {I : Nat → DEnv → Prop} {Q : Fl → DEnv → Prop} (ds : List D)
    (step : ∀ i d ρ, ds[i]? = some d → I i ρ → ∃ ρ1, k d ρ = some ρ1 ∧ Sat (body ρ1) fun f ρ2 => (f = .nx ∧ I (i + 1) ρ2) ∨ (∃ z, f = .rt z ∧ Q (.rt z) ρ2)) (ρ : DEnv) (h0 : I 0 ρ) (fin : ∀ ρ, I ds.length ρ → Q .nx ρ) : Sat (mFor k body ds ρ) Q := by
  have go : ∀ (l : List D) (j : Nat) (ρ : DEnv), ds.drop j = l → j + l.length = ds.length → I j ρ → Sat (mFor k body l ρ) Q := by
    intro l
    induction l with
    | nil =>
      intro j ρ hd hl hi
      have e : j = ds.length := by simpa using hl
      subst e; exact ⟨_, _, rfl, fin _ hi⟩
    | cons d l ih =>
      intro j ρ hd hl hi
      have ed : ds[j]? = some d := by
        have : (ds.drop j)[0]? = some d := by rw [hd]; rfl
        simpa using this
      obtain ⟨ρ1, e1, f, ρ2, e2, h⟩ := step j d ρ ed hi
      unfold mFor
      rw [e1]
      dsimp only
      rw [e2]
      rcases h with ⟨rfl, h⟩ | ⟨z, rfl, h⟩
      · exact ih (j + 1) ρ2 (by rw [← List.drop_drop, hd]; rfl) (by rw [List.length_cons] at hl; omega) h
      · exact ⟨_, _, rfl, h⟩
  exact go ds 0 ρ rfl (by simp) h0
/-- a comprehension that leaves the frame as it is -/
theorem mLc_gen {ma : MA} {k : D → DEnv → Option DEnv} {test : MT} {elt : ME} {vs : List Nat} {ρ : DEnv} {ds : List D} (p : D → Bool) (f : D → D) (hma : ma ρ = .ok ds ρ) (hlen : ds.length ≤ 16777216)
    (hstep : ∀ d ∈ ds, ∃ ρ1, k d (wipeD ρ vs) = some ρ1 ∧ wipeD ρ1 vs = wipeD ρ vs ∧ test ρ1 = .ok (p d) ρ1 ∧ (p d = true → elt ρ1 = .ok (f d) ρ1)) (hfill : fillD ρ vs (wipeD ρ vs) = ρ) :
    mLc ma k test elt vs ρ = .ok (.lst ((ds.filter p).map f)) ρ := by
  have go : ∀ (l : List D) (acc : List D) (ρ0 : DEnv), (∀ d ∈ l, d ∈ ds) → acc.length + l.length ≤ 16777216 → wipeD ρ0 vs = wipeD ρ vs → ∃ ρ', mLcGo k test elt vs l acc ρ0 = .ok (acc ++ (l.filter p).map f) ρ' ∧ wipeD ρ' vs = wipeD ρ vs := by
    intro l
    induction l with
    | nil => intro acc ρ0 _ _ h; exact ⟨ρ0, by simp [mLcGo], h⟩
    | cons d l ih =>
      intro acc ρ0 hm hl h
      obtain ⟨ρ1, e1, e2, e3, e4⟩ := hstep d (hm d List.mem_cons_self)
      rw [List.length_cons] at hl
      unfold mLcGo
      rw [h, e1]
      dsimp only
      rw [e3, R.bindN_ok]
      cases hp : p d with
      | false =>
        rw [if_neg Bool.false_ne_true]
        obtain ⟨ρ', e5, e6⟩ := ih acc ρ1 (fun x m => hm x (List.mem_cons_of_mem _ m)) (by omega) e2
        refine ⟨ρ', ?_, e6⟩
        rw [e5, List.filter_cons_of_neg (by rw [hp]; exact Bool.false_ne_true)]
      | true =>
        rw [if_pos rfl, e4 hp, R.bindN_ok, if_pos (by omega)]
        obtain ⟨ρ', e5, e6⟩ := ih (acc ++ [f d]) ρ1 (fun x m => hm x (List.mem_cons_of_mem _ m)) (by rw [List.length_append, List.length_singleton]; omega) e2
        refine ⟨ρ', ?_, e6⟩
        rw [e5, List.filter_cons_of_pos hp, List.map_cons, List.append_assoc]
        rfl
  obtain ⟨ρ', e1, e2⟩ := go ds [] ρ (fun _ m => m) (by simpa using hlen) rfl
  unfold mLc
  rw [hma, R.bind_ok, e1, R.bind_ok, e2, hfill]
  rfl
/-- .. of one name, without an if -/
theorem mLc_one {ma : MA} {elt : ME} {i : Nat} {ρ : DEnv} {ds : List D} (f : D → D) (hma : ma ρ = .ok ds ρ) (hlen : ds.length ≤ 16777216) (hi : i < ρ.length)
    (helt : ∀ d ∈ ds, elt (ρ.set i (some d)) = .ok (f d) (ρ.set i (some d))) : mLc ma (kName i) mYes elt [i] ρ = .ok (.lst (ds.map f)) ρ := by
  have hs : ∀ d, (ρ.set i none).set i (some d) = ρ.set i (some d) := fun d => List.set_set ..
  have := mLc_gen (k := kName i) (test := mYes) (elt := elt) (vs := [i]) (fun _ => true) f hma hlen (fun d m => ⟨ρ.set i (some d), by show some ((ρ.set i none).set i (some d)) = _; rw [hs], by show (ρ.set i (some d)).set i none = ρ.set i none; exact List.set_set .., rfl, fun _ => helt d m⟩) (by
    show (ρ.set i none).set i ((ρ[i]?).bind id) = ρ
    rw [List.set_set]
    apply List.ext_getElem?
    intro j
    by_cases e : i = j
    · subst e
      rw [List.getElem?_set_self hi, List.getElem?_eq_getElem hi]
      cases ρ[i] <;> rfl
    · rw [List.getElem?_set_ne e])
  rw [this]
  congr 3
  exact List.filter_eq_self.mpr fun _ _ => rfl
end VL
/-! V17: xs[::1], xs[::-1] of a list; enumerate of a tuple; count; a raise that is not reached. -/
namespace VL
open PySem PySem.Spec L2

/-! ### steps -/
theorem pick_fwd (items : Array Value) : slicePick items none none (some 1) = items := by
  have e : sliceBounds none none (some 1) items.size = sliceBounds none none none items.size := by simp [sliceBounds]
  have h := slicePick_all items
  unfold slicePick at h ⊢
  rw [e]; exact h
abbrev rStep (K : PySem.W.Frag) : R2 := fun x y H Q => ∃ a xs i, x = .ref a ∧ y = .int i ∧ SqL K H a xs ∧ ((i = 1 ∧ ∀ p, H p = none → Q (.ref p) (upd H p (.lst xs))) ∨ (i = -1 ∧ ∀ p, H p = none → Q (.ref p) (upd H p (.lst xs.reverse))))
section
variable {X : Cx} {a c : Expr} {ta tc : TE} {pos p2 : Pos}
theorem pe_step (ha : PE X a ta) (hc : PE X c tc) : PE X (.Subscript a (.Slice none none (some c) p2) pos) (tOp (rStep X.K) ta tc) := by
  refine ⟨fun pins s σ H Q I h => PyProof.Rows.Subscript_ (thn (ha.run pins s σ H _ I h) fun v s1 ⟨x, H1, I1, r1, q1⟩ => ?_)⟩
  refine wpAny_Slice ?_
  rw [evalPart_none]
  refine wpAny_pure (wpAny_pure ?_)
  rw [evalPart_some]
  refine thn (hc.run pins s1 σ H1 _ I1 q1) fun u s2 ⟨y, H2, I2, r2, q2⟩ => ?_
  obtain ⟨l, xs, i, rfl, rfl, hs, q2⟩ := q2
  cases r1
  obtain ⟨t, rfl⟩ := r2
  have I3 : Inv X pins σ H2 { s2 with heap := s2.heap.push { cls := .type "slice", data := .fields #[.none, .none, .int i t] } } := I2.kept (t' := s2.toks) fun b ob q => Heap.get?_push_of_some _ q
  obtain ⟨its, r, ht, hz⟩ := I3.list hs
  have hlen := r.length
  have lay : ∀ (ys : List V) (us : List Value), Vals ys us → ys.length ≤ sizeLine → (∀ p, H2 p = none → Q (.ref p) (upd H2 p (.lst ys))) →
      EP X pins σ Q (.ref (s2.heap.push { cls := .type "slice", data := .fields #[.none, .none, .int i t] }).objs.size) { s2 with heap := (s2.heap.push { cls := .type "slice", data := .fields #[.none, .none, .int i t] }).push { cls := .type "list", data := .seq us.toArray } } := fun ys us rv hl q =>
    ⟨.ref _, _, I3.laid (t' := s2.toks) (o := .lst ys) (fun b ob q => Heap.get?_push_of_some _ q) (Nat.le_refl _) ⟨hl, us, 0, rv, Heap.get?_push_size _ rfl⟩, rfl, q _ (I3.hok.fresh (Nat.le_refl _))⟩
  have go : ∀ (us : Array Value) (i0 : Int), i = i0 → i0 ≠ 0 → slicePick its.toArray none none (some i0) = us → EP X pins σ Q (.ref (s2.heap.push { cls := .type "slice", data := .fields #[.none, .none, .int i t] }).objs.size) { s2 with heap := (s2.heap.push { cls := .type "slice", data := .fields #[.none, .none, .int i t] }).push { cls := .type "list", data := .seq us } } →
      wpAny (model X.prog X.w) X.A (PyProof.Rows.subscriptTail a (.Slice none none (some c) p2) (.ref l) (.ref s2.heap.objs.size)) (EP X pins σ Q) X.xe { s2 with heap := s2.heap.push { cls := .type "slice", data := .fields #[.none, .none, .int i t] } } := fun us i0 e n0 ep hq => by
    subst e
    refine PyProof.Rows.tail_any (ops := [.ref l, .ref s2.heap.objs.size]) ht.isList.typeIs PySem.F.slot_list_getitem.lookup ?_ (by with_unfolding_all rfl)
    refine wpAny_getItem_list_slice (st := some i) ht.isList (Heap.IsSliceOf.new ..) .none .none (.int i t) (fun z => n0 (Option.some.inj z)) ?_ (by rw [List.size_toArray, ← hlen]; exact hz)
    rw [ep]
    exact hq
  rcases q2 with ⟨rfl, q⟩ | ⟨rfl, q⟩
  · exact go _ 1 rfl (by decide) (pick_fwd _) (lay xs its r hz q)
  · exact go _ (-1) rfl (by decide) (PySem.W.krv_pick _) (lay xs.reverse its.reverse r.reverse (by rw [List.length_reverse]; exact hz) q)
end
def stepD : D → D → Option D
  | .lst ds, .int i => if i = 1 then some (.lst ds) else if i = -1 then some (.lst ds.reverse) else none
  | _, _ => none
theorem s_step {K : PySem.W.Frag} : Op2 K (.lst .leaf) (rStep K) stepD := by
  intro F H x y d e z Q sm h k q ok
  unfold stepD at q
  split at q
  · rename_i ds i
    obtain ⟨p, vs, rfl, e2, r⟩ := h.lstE sm
    have ei := k.intE
    subst ei
    split at q
    · rename_i e1
      cases q
      exact ⟨p, vs, i, rfl, rfl, .inl (.inl e2), .inl ⟨e1, fun l n => ok.newL sm r n⟩⟩
    · split at q
      · rename_i e1
        cases q
        exact ⟨p, vs, i, rfl, rfl, .inl (.inl e2), .inr ⟨e1, fun l n => ok.newL sm r.reverse n⟩⟩
      · cases q
  · cases q
theorem ev_step {X : Cx} {ks : List Sh} {W : WX} {a c : Expr} {ta tc : TE} {mo mp : MO} {pos p2 : Pos} (K : PySem.W.Frag) (hK : X.K = K) (ha : EO X ks W a ta mo) (hc : EO X ks W c tc mp) :
    EV X ks W (.Subscript a (.Slice none none (some c) p2) pos) (.lst .leaf) (tOp (rStep K) ta tc) (mOp2 stepD mo mp) := by
  subst hK
  exact ⟨pe_step ha.pe hc.pe, snd_op2 (b := bd X ks W) s_step ha.sd hc.sd⟩

/-! ### a raise that is not reached -/
theorem sv_no {X : Cx} {ks : List Sh} {W : WX} {rsh : Sh} {fx : Nat} {e : Option Expr} {c : Option Expr} {pos : Pos} : SV X ks W rsh fx (.Raise e c pos) (fun _ _ _ => False) (fun _ => .no) :=
  ⟨⟨fun pins s σ H D I h => h.elim⟩, fun ρ σ F H fp D r h => h⟩

/-! ### count -/
section
variable {X : Cx}
end
end VL
/-! V18: enumerate of a tuple, of a list that stands; count of a list. -/
namespace VL
open PySem PySem.Spec L2
open AutoSeq1 (wpAny_loadPart')

theorem meets_enumT (l : Addr) (items : Array Value) (n : Nat) (dct : Option Addr) (sl : Array (Option Value)) :
    Meets (Builtin.«enumerate.__new__» ⟨[.type "enumerate", .ref l], []⟩) (fun _ R s => s.heap.get? l = some { cls := .type "tuple", dict := dct, data := .seq items n, slots := sl } ∧
      R (.ok (.ret (.ref (s.heap.push { cls := .type "tuple_iterator", data := .fields #[.ref l, .int 0 0] }).objs.size)))
        { s with heap := (s.heap.push { cls := .type "tuple_iterator", data := .fields #[.ref l, .int 0 0] }).push { cls := .type "enumerate", data := .fields #[.none, .bool false, .ref s.heap.objs.size, rawInt 0, .none, .none] } }) :=
  .of_wp fun prog w A R ⟨hp, g, dr, tk, os⟩ ⟨hl, h⟩ => by
    have sub := sub_enumerate
    have it : Heap.IsTuple (Shared.heap ⟨hp, g, dr, tk, os⟩) l items := ⟨_, hl, rfl, n, rfl⟩
    wp_walk using wpAny_loadPart' hl
    refine wpAny_stack_any fun _ => wpAny_pure ?_
    split
    · rename_i c _ _ _ _ _
      cases (c == Value.type "enumerate") <;> (wp_walk using wpAny_loadPart' hl, wpAny_pyIter_tuple it; exact ⟨_, rfl, h⟩)
    · wp_walk using wpAny_loadPart' hl, wpAny_pyIter_tuple it
      exact ⟨_, rfl, h⟩
section
variable {prog : Program} {w : World} {A : Around} {E : Value → Shared → Prop} {s : Shared}
theorem call_enumT {l : Addr} {items : Array Value} {Q : Value → Shared → Prop} (hl : PyProof.Rows.IsTup s.heap l items)
    (h : ∀ h', IsEnum h' (s.heap.objs.size + 1) s.heap.objs.size ((0 : Nat) : Int) .none → h'.IsTupleIter s.heap.objs.size l 0 → (∀ b o, s.heap.get? b = some o → h'.get? b = some o) → Q (.ref (s.heap.objs.size + 1)) { s with heap := h' }) :
    wpAny (model prog w) A (call (.type "enumerate") [.ref l]) Q E s := by
  obtain ⟨⟨c, dct, dt, sl⟩, ho, hc, n, hd⟩ := hl
  simp only at hc hd
  subst hc hd
  refine callType_new F.called_enumerate (by decide) (F.typeCall_enumerate_1 _) (F.newCall_enumerate_1 _) (fun obj => F.args_object_init_2 obj _) F.entry_enumerate_new (meets_enumT l items n dct sl) ⟨ho, ?_⟩
  have z1 : (s.heap.push { cls := .type "tuple_iterator", data := .fields #[.ref l, .int 0 0] }).objs.size = s.heap.objs.size + 1 := Heap.size_push ..
  show _ ∧ _
  rw [z1]
  have e1 := Heap.get?_push_size (s.heap.push { cls := .type "tuple_iterator", data := .fields #[.ref l, .int 0 0] }) (o := { cls := .type "enumerate", data := .fields #[.none, .bool false, .ref s.heap.objs.size, rawInt 0, .none, .none] }) rfl
  rw [z1] at e1
  exact ⟨⟨_, e1, rfl⟩, h _ e1 ⟨_, Heap.get?_push_of_some _ (Heap.get?_push_size _ rfl), rfl, rfl⟩ fun b o x => Heap.get?_push_of_some _ (Heap.get?_push_of_some _ x)⟩
end
/-- the tuple at a, each item in a new pair with its number -/
def IteT (K : PySem.W.Frag) (a : Addr) : It where
  go := fun i H => ∃ (xs : List V) (x : V), SqT K H a xs ∧ xs[i]? = some x
  yld := fun i H v H' => ∃ T x us, v = .ref T ∧ H T = none ∧ H' = upd H T (tupC us [.int (i : Nat), x]) ∧ ∀ xs, SqT K H a xs → xs[i]? = some x
  stop := fun i H => ∃ xs : List V, SqT K H a xs ∧ xs.length ≤ i
theorem turn_enumT {P : Program} {w : World} {K : PySem.W.Frag} {elts : List Expr} {kk : Nat} {tpos : Pos} (a e it : Addr) :
    Turn P w K (.Tuple elts kk tpos) (IteT K a) [e, it] e (fun i h => (∃ old, IsEnum h e it ((i : Nat) : Int) old) ∧ h.IsTupleIter it a i ∧ e ≠ it ∧ a ≠ it) where
  mem := List.mem_cons_self
  obj := fun i h st b hb => by
    obtain ⟨⟨old, he⟩, ⟨o, ho, _, hd⟩, _⟩ := st
    rcases List.mem_cons.mp hb with z | hb
    · subst z; exact ⟨_, he, fun v q => nomatch q⟩
    · cases List.mem_singleton.mp hb
      exact ⟨o, ho, fun v q => by rw [hd] at q; cases q⟩
  keep := fun i h h' st k => by
    obtain ⟨⟨old, he⟩, hi, n1, n2⟩ := st
    exact ⟨⟨old, k e List.mem_cons_self _ he⟩, hi.at fun o q => k it (List.mem_cons_of_mem _ List.mem_cons_self) o q, n1, n2⟩
  item := by
    intro X hP hw hK hc i pins s σ H E I hf st ⟨xs, x, hq, hx⟩
    subst hP hw hK
    obtain ⟨⟨old, he⟩, hit, n1, n2⟩ := st
    obtain ⟨its, rv, p, hz⟩ := I.tuple hq
    obtain ⟨u, hu, ru⟩ := rv.get hx
    have lt : i < its.toArray.size := by rw [List.size_toArray]; exact (List.getElem?_eq_some_iff.mp hu).1
    have hel : e < s.heap.objs.size := Heap.lt_size he
    have hil : it < s.heap.objs.size := by obtain ⟨_, q, _⟩ := hit; exact Heap.lt_size q
    have ea : e ≠ a := fun z => by
      obtain ⟨o, ho, hcl, _⟩ := p
      subst z
      rw [he] at ho
      cases ho
      exact absurd (Value.type.inj hcl) (by decide)
    have D := Draws.tuple (prog := X.prog) (w := X.w) (A := X.A.in1) (by show X.A.in1.handled = none; exact I.ok.hd hc) it a n2 its.toArray
    refine wpAny_pyNext_enum_itemD D he ⟨hit, p⟩ lt n1 (by simp [n1, ea]) fun y h' tk hy ho st' hT hsz hk => ?_
    have ey : y = u := by
      have hu' : its.toArray[i]? = some u := by simpa using hu
      rw [hu'] at hy
      exact (Option.some.inj hy).symm
    subst ey
    refine ⟨_, rfl, wpAny_letOwnedTupleGo_enum (s := { s with heap := h', toks := tk + 1 }) ho fun h2 he2 sb => ?_⟩
    have hT2 : h2.get? s.heap.objs.size = some { cls := .type "tuple", data := .seq #[.int i tk, y] } := (sb.2 _ (Nat.ne_of_gt hel)).trans hT
    have new : ObjOk X.prog X.w (upd H s.heap.objs.size (tupC [.int i tk, y] [.int (i : Nat), x])) h2 s.heap.objs.size (tupC [.int i tk, y] [.int (i : Nat), x]) :=
      tupC_ok (by show 2 ≤ sizeLine; decide) (.cons ⟨_, rfl⟩ (.cons ru .nil)) hT2
    have I1 := I.turnedNew (ch := [e, it]) (T := s.heap.objs.size) (t' := tk + 1) (ob := tupC [.int i tk, y] [.int (i : Nat), x]) (h' := h2)
      (fun b ob hb q => (sb.2 b (fun z => hb (by simp [z]))).trans (hk b ob (fun z => hb (by simp [z])) (fun z => hb (by simp [z])) q)) hf (Nat.le_refl _) new
    refine ⟨.ref s.heap.objs.size, _, I1, rfl, ⟨_, x, _, rfl, I.hok.fresh (Nat.le_refl _), rfl, fun ys hy' => by rw [I.tuple_inj hy' hq]; exact hx⟩, ⟨⟨y, ?_⟩, st'.1.at fun o q => (sb.2 it (Ne.symm n1)).trans q, n1, n2⟩, fun b hb => ?_⟩
    · have e1 : ((i + 1 : Nat) : Int) = (i : Int) + 1 := by omega
      rw [e1]; exact he2
    · have lb : b < s.heap.objs.size := by
        rcases List.mem_cons.mp hb with z | hb
        · subst z; exact hel
        · cases List.mem_singleton.mp hb; exact hil
      rw [upd_ne (Nat.ne_of_lt lb)]
      exact (hf b hb).1
  done := by
    intro X hP hw hK hc i pins s σ H E I hf st ⟨xs, hq, hx⟩
    subst hP hw hK
    obtain ⟨⟨old, he⟩, hit, n1, n2⟩ := st
    obtain ⟨its, rv, p, hz⟩ := I.tuple hq
    have D : Draws X.prog X.w X.A.in1 it [it, a] i (fun _ _ => True) (fun j h => j = i ∧ h.IsTupleIter it a i ∧ h.IsTuple a its.toArray) :=
      { live := fun _ _ st => let ⟨o, ho, _⟩ := st.2.1; ⟨o, ho⟩
        frame := fun _ _ _ st hk => ⟨st.1, st.2.1.at fun o e => hk it (by simp) o e, st.2.2.at fun o e => hk a (by simp) o e⟩
        item := fun j s Q E hi st _ => absurd (show j = i from st.1) (Nat.ne_of_lt hi)
        done := fun s Q E st hE => wpAny_nextOf_tuple_end (show X.A.in1.handled = none from I.ok.hd hc) st.2.1 st.2.2 (by have := rv.length; simp; omega) hE }
    obtain ⟨f0, f1, f2, f3, f4, f5⟩ := hf it (by simp)
    exact wpAny_pyNext_enum_endD D he ⟨rfl, hit, p⟩ fun h' eb => ⟨rfl, I.turned (t' := s.toks) (fun b o hb q => eb b o hb q) f0 f1 f3 f4 f5⟩
  self := fun A i s Q E st h => by
    obtain ⟨⟨_, he⟩, _⟩ := st
    exact wpAny_pyIter_enum he h

def iEnumT (K : PySem.W.Frag) (ta : TE) : TI := fun σ H R => ta σ H fun v H1 => ∃ a xs, v = .ref a ∧ SqT K H1 a xs ∧ R (IteT K a) H1
theorem pi_enumT {X : Cx} {e : Expr} {ta : TE} {p pos tpos : Pos} {elts : List Expr} {kk : Nat} (hg : Gl X "enumerate") (hm : X.mg "enumerate" = none) (ha : PE X e ta) (hs : starEach [e] X.env = (false, eval e X.env) :: starEach [] X.env := by rfl) :
    PI X (.Tuple elts kk tpos) (.Call (.Name "enumerate" p) [e] [] pos) (iEnumT X.K ta) := by
  refine ⟨fun pins s σ H R I h => PyProof.Rows.Call_ (ld_blt I hg hm PyProof.Rows.boot_enumerate (PyProof.Rows.callWith_type1 (PyProof.Rows.args_cons (thn (ha.run pins s σ H _ I h) fun v s1 ⟨x, H1, I1, r1, q1⟩ => PyProof.Rows.args_nil ?_) hs) hs rfl))⟩
  obtain ⟨a, xs, rfl, hq, q⟩ := q1
  cases r1
  obtain ⟨its, rv, p', hz⟩ := I1.tuple hq
  have al : a < s1.heap.objs.size := by obtain ⟨o, ho, _⟩ := p'; exact Heap.lt_size ho
  refine call_enumT p' fun h' he hit hk => wpAny_pyIter_enum he ?_
  have I2 : Inv X pins σ H1 { s1 with heap := h' } := I1.kept (t' := s1.toks) hk
  refine ⟨s1.heap.objs.size + 1, [s1.heap.objs.size + 1, s1.heap.objs.size], _, _, H1, rfl, I2, turn_enumT a (s1.heap.objs.size + 1) s1.heap.objs.size, ⟨⟨.none, he⟩, hit, Nat.succ_ne_self _, Nat.ne_of_lt al⟩, fun b hb => ?_, q⟩
  have hle : s1.heap.objs.size ≤ b := by
    rcases List.mem_cons.mp hb with z | hb
    · subst z; exact Nat.le_add_right _ _
    · cases List.mem_singleton.mp hb; exact Nat.le_refl _
  exact I1.fpOk hle (I1.hok.fresh hle)
/-- the pairs of an enumerate -/
def enumD (ds : List D) : List D := ds.mapIdx fun i d => .tup [.int (i : Nat), d]
theorem walks_enumT {K : PySem.W.Frag} {F0 : Hp} {a : Addr} {vs : List V} {ds : List D} (e : SqT K F0 a vs) (r : Reps K F0 vs ds) : Walks K (IteT K a) (enumD ds) F0 := by
  intro i F H s1 s2
  have q : SqT K H a vs := same_sqT s2.sm (same_sqT s1 e)
  have r' := r.mono s1
  refine ⟨fun d hd => ?_, fun hl => ⟨vs, q, by rw [r.length]; unfold enumD at hl; rwa [List.length_mapIdx] at hl⟩⟩
  have hd' : ∃ d0, ds[i]? = some d0 ∧ d = .tup [.int (i : Nat), d0] := by
    unfold enumD at hd
    rw [List.getElem?_mapIdx] at hd
    cases z : ds[i]? with
    | none => rw [z] at hd; cases hd
    | some d0 => rw [z] at hd; exact ⟨d0, rfl, (Option.some.inj hd).symm⟩
  obtain ⟨d0, e0, rfl⟩ := hd'
  obtain ⟨v, v1, v2⟩ := r'.get e0
  refine ⟨⟨vs, v, q, v1⟩, fun x H' ⟨T, y, us, h1, h2, h3, h4⟩ => ?_⟩
  subst h1 h3
  have := (h4 vs q).symm.trans v1
  cases this
  have al := upd_alc (o := tupC us [.int (i : Nat), v]) s2 h2
  exact ⟨_, al, .tup ⟨_, upd_same⟩ (.cons (.int _) (.cons (v2.mono (al.same s2)) .nil))⟩
def mEnT (m : ME) : MA := fun ρ => (m ρ).bind fun d ρ1 => match d with | .tup ds => .ok (enumD ds) ρ1 | _ => .no
theorem kv_enumT {X : Cx} {ks : List Sh} {W : WX} {e : Expr} {te : TE} {me : ME} {p pos tpos : Pos} {elts : List Expr} {kk : Nat} (K : PySem.W.Frag) (hK : X.K = K) (h : EV X ks W e .leaf te me) (hm : X.mg "enumerate" = none) (hg : Gl X "enumerate" := by rfl)
    (hs : starEach [e] X.env = (false, eval e X.env) :: starEach [] X.env := by rfl) : IV X ks W (.Tuple elts kk tpos) (.Call (.Name "enumerate" p) [e] [] pos) (iEnumT K te) (mEnT me) := by
  subst hK
  refine ⟨pi_enumT hg hm h.pe hs, fun ρ σ F H fp Q α Ok f r hok hn hx k => ?_⟩
  unfold mEnT at hok
  rw [bind_assoc] at hok
  refine h.sd.go r (Ok := Ok) hok hn hx fun d ρ1 v F1 H1 fp1 h1 r1 x1 p1 => ?_
  cases d with
  | tup ds =>
    cases p1 with
    | tup q1 q2 => exact ⟨_, _, rfl, (q1.mono r1.sub.sm).sq X.K, k _ ρ1 _ F1 H1 fp1 h1 r1 x1 (walks_enumT (q1.sq X.K) q2)⟩
  | _ => exact (hn h1).elim

/-! ### count of a list -/
end VL
/-! V19: a dict of dicts, owned. -/
namespace VL
open PySem PySem.Spec L2

section
variable {K : PySem.W.Frag} {F H : Hp} {s : Sh}
theorem ORs.append : ∀ {vs ws : List V} {ds es : List D} {f g : List Addr}, ORs K F H s vs ds f → ORs K F H s ws es g → ORs K F H s (vs ++ ws) (ds ++ es) (f ++ g)
  | _, _, _, _, _, _, .nil, r => r
  | _, _, _, _, _, _, .cons (f := f0) o t, r => by
    rw [List.append_assoc]
    exact .cons o (ORs.append t r)
theorem ORs.split : ∀ {vs : List V} {ds : List D} {fp : List Addr} {j : Nat} {d : D}, ORs K F H s vs ds fp → ds[j]? = some d →
    ∃ v f g, vs[j]? = some v ∧ OR K F H s v d f ∧ fp.Perm (f ++ g) ∧ ∀ H' d' f', (∀ a ∈ g, H' a = H a) → OR K F H' s v d' f' → ∃ fp', ORs K F H' s vs (ds.set j d') fp' ∧ fp'.Perm (f' ++ g)
  | _, _, _, _, _, .nil, e => by simp at e
  | _, _, _, 0, _, .cons (v := v) (f := f0) (g := g0) o t, e => by
    simp at e
    subst e
    exact ⟨v, f0, g0, rfl, o, .rfl, fun H' d' f' h o' => ⟨f' ++ g0, .cons o' (t.frame (fun _ _ x => x) fun a m => ⟨(t.own a m).1, h a m⟩), .rfl⟩⟩
  | _, _, _, j + 1, _, .cons (f := f0) o t, e => by
    obtain ⟨v, f, g, h1, h2, h3, h4⟩ := ORs.split (j := j) t (by simpa using e)
    refine ⟨v, f, f0 ++ g, by simpa using h1, h2, ?_, fun H' d' f' h o' => ?_⟩
    · refine (List.Perm.append_left f0 h3).trans ?_
      rw [← List.append_assoc, ← List.append_assoc]
      exact List.Perm.append_right g List.perm_append_comm
    · obtain ⟨fp', q1, q2⟩ := h4 H' d' f' (fun a m => h a (List.mem_append_right _ m)) o'
      refine ⟨f0 ++ fp', .cons (o.frame (fun _ _ x => x) fun a m => ⟨(o.own a m).1, h a (List.mem_append_left _ m)⟩) q1, ?_⟩
      refine (List.Perm.append_left f0 q2).trans ?_
      rw [← List.append_assoc, ← List.append_assoc]
      exact List.Perm.append_right g List.perm_append_comm
end
section
variable {K : PySem.W.Frag} {ks : List Sh} {F H : Hp} {ρ : DEnv} {σ : St} {fp : List Addr}
abbrev dd : Sh := .dic (.dic .leaf)
end
end VL
/-! V20: statements and tests over an owned dict of dicts. -/
namespace VL
open PySem PySem.Spec L2

section
variable {X : Cx} {ks : List Sh} {W : WX} {rsh : Sh} {fx : Nat} {a c value : Expr} {i j : Nat} {x y : Str} {p p1 p2 pos pos1 pos2 pos3 : Pos} {ta tc tv : TE} {ma mc mv : ME}
end
end VL
namespace VL
open PySem PySem.Spec L2
end VL
/-! V21: is, is not over truths. -/
namespace VL
open PySem PySem.Spec L2
def isBD : D → D → Option D
  | .bl a, .bl b => some (.bl (decide (a = b)))
  | _, _ => none
def notBD : D → D → Option D
  | .bl a, .bl b => some (.bl (!decide (a = b)))
  | _, _ => none
section
variable {K : PySem.W.Frag}
theorem s_isB : Op2 K .leaf (fun x y H Q => ∃ a b, x = .bl a ∧ y = .bl b ∧ Q (.bl (decide (a = b))) H) isBD := by
  intro F H x y d e z Q sm hx hy hf ok
  unfold isBD at hf
  split at hf
  · cases hf
    exact ⟨_, _, hx.blE, hy.blE, ok.here sm (.bl _)⟩
  · cases hf
end
@[simp] theorem d_isB (a b : Bool) : isBD (.bl a) (.bl b) = some (.bl (decide (a = b))) := rfl
@[simp] theorem d_notB (a b : Bool) : notBD (.bl a) (.bl b) = some (.bl (!decide (a = b))) := rfl
end VL
/-! V22: dict of a list of pairs. -/
namespace VL
open PySem PySem.Spec L2
section
variable {K : PySem.W.Frag}
end
section
variable {X : Cx} (K : PySem.W.Frag) (hK : X.K = K)
include hK
end
end VL
/-! V23: reversed of a list or a tuple. -/
namespace VL
open PySem PySem.Spec L2
def asRev : D → DEnv → R (List D)
  | .tup ds, ρ => .ok ds.reverse ρ
  | .lst ds, ρ => .ok ds.reverse ρ
  | _, _ => .no
def mRev (m : ME) : MA := fun ρ => (m ρ).bind asRev
section
variable {ρ : DEnv} {m : ME}
@[simp] theorem e_rev : mRev m ρ = (m ρ).bind asRev := rfl
@[simp] theorem e_asRevT (ds : List D) : asRev (.tup ds) ρ = .ok ds.reverse ρ := rfl
@[simp] theorem e_asRevL (ds : List D) : asRev (.lst ds) ρ = .ok ds.reverse ρ := rfl
end
end VL
/-! V24: dicts walked, items, sum of values, get, index, keys of tuples. -/
namespace VL
open PySem PySem.Spec L2

/-! ### walks over a dict that stands -/
def asKy : D → DEnv → R (List D)
  | .dK ds, ρ => if ds.all (fun kv => ascK kv.1) = true then .ok (ds.map fun kv => keyD kv.1) ρ else .no
  | .dT ds, ρ => if ds.all (fun kv => kv.1.all ascK) = true then .ok (ds.map fun kv => .key kv.1) ρ else .no
  | _, _ => .no
def mKs (m : ME) : MA := fun ρ => (m ρ).bind asKy
section
variable {X : Cx} {ks : List Sh} {W : WX} {tg e : Expr} {te : TE} {me : ME} {apos cpos : Pos}
end

/-! ### items -/
def asIt : D → DEnv → R (List D)
  | .dK ds, ρ => if ds.all (fun kv => ascK kv.1) = true then .ok (ds.map fun kv => .tup [keyD kv.1, kv.2]) ρ else .no
  | _, _ => .no
def mIts (m : ME) : MA := fun ρ => (m ρ).bind asIt
section
variable {X : Cx} {ks : List Sh} {W : WX} {tg e : Expr} {te : TE} {me : ME} {apos cpos tpos : Pos} {elts : List Expr} {kk : Nat}
end
end VL
/-! V25: sum(d.values()), d.get(k, x), index, keys made. -/
namespace VL
open PySem PySem.Spec L2

/-! ### sum(o.values()) -/
/-! ### o.get(k, x) -/
def D.isDc : D → Bool
  | .dK _ => true
  | .dT _ => true
  | _ => false
def getD3 (d k x : D) : Option D := match d with
  | .dK kvs => (keyK k).bind fun q => some ((look kvs q).getD x)
  | .dT kvs => (keyT k).bind fun q => some ((look kvs q).getD x)
  | _ => none
def mGet (mo : MO) (mk mx : ME) : ME := fun ρ => (mo ρ).bind fun o ρ1 => if (o.get ρ1).any D.isDc = true then (mk ρ1).bind fun k ρ2 => (mx ρ2).bind fun x ρ3 => R.of ((o.get ρ3).bind fun d => getD3 d k x) ρ3 else .no
theorem vw_isD {K : PySem.W.Frag} {F H : Hp} (sm : Sub F H) {v : V} {d : D} (h : Vw K F H v d) (e : d.isDc = true) : ∃ a, v = .ref a ∧ IsD H a := by
  cases d with
  | dK kvs => obtain ⟨p, kv, e1, e2, _⟩ := h.dKE sm; exact ⟨p, e1, .inl ⟨_, e2⟩⟩
  | dT kvs => obtain ⟨p, kv, e1, e2, _⟩ := h.dTE sm; exact ⟨p, e1, .inr ⟨_, e2⟩⟩
  | _ => cases e
theorem ev_get {X : Cx} {ks : List Sh} {W : WX} {o e f : Expr} {apos cpos : Pos} {td ty tx : TE} {mo : MO} {mk mx : ME} (hu : X.A.units + 1 < cLine) (ho : EO X ks W o td mo) (he : EV X ks W e .leaf ty mk) (hf : EV X ks W f .leaf tx mx)
    (m1 : attributeBase o "get" X.env (eval o X.env) = eval o X.env := by rfl)
    (m2 : ((backTo cpos (starEach [e, f] X.env)).all (fun x => !x.1) && (backToKw cpos (keywordEach [] X.env)).all (fun x => x.1.isSome)
    && decide (([e, f] : List Expr).length + ([] : List Keyword).length + (if ([] : List Keyword).isEmpty then 0 else 1) < 30)) = true := by rfl)
    (m3 : (apos.endLine == cpos.line) = true := by rfl) (m4 : backTo cpos (starEach [e, f] X.env) = [(false, eval e X.env), (false, eval f X.env)] := by rfl) :
    EV X ks W (.Call (.Attribute o "get" apos) [e, f] [] cpos) .leaf (tDGet2 td ty tx) (mGet mo mk mx) := by
  refine ⟨pe_dget2 hu ho.pe he.pe hf.pe ⟨m1, m2, m3, m4⟩, fun ρ σ F H fp Q r0 hok => ?_⟩
  unfold mGet at hok
  refine ho.sd.go r0 (Ok := OkE (bd X ks W) .leaf F H fp σ Q) hok (fun z => z) (fun _ _ z => z) fun x ρ1 v F1 H1 fp1 h1 r1 x1 o1 => ?_
  cases e1 : x.get ρ1 with
  | none => rw [e1] at h1; exact (show False from h1).elim
  | some d =>
    rw [e1] at h1
    by_cases c : (some d).any D.isDc = true
    · rw [if_pos c] at h1
      obtain ⟨a, rfl, isd⟩ := vw_isD r1.sub (o1.vw r1 e1) c
      refine ⟨a, rfl, isd, ?_⟩
      refine he.sd.go r1 (Ok := OkE (bd X ks W) .leaf F1 H1 fp1 σ Q) (h1.ext x1) (fun z => z) (fun _ _ z => z) fun k ρ2 u F2 H2 fp2 h2 r2 x2 p2 => ?_
      refine hf.sd.go r2 (Ok := OkE (bd X ks W) .leaf F2 H2 fp2 σ Q) (h2.ext x2) (fun z => z) (fun _ _ z => z) fun y ρ3 w F3 H3 fp3 h3 r3 x3 p3 => ?_
      have o3 := (o1.mono (r1.same x2)).mono (r2.same x3)
      have p2' := p2.mono (r2.same x3)
      cases e3 : x.get ρ3 with
      | none => rw [e3] at h3; exact (show False from h3).elim
      | some d3 =>
        rw [e3, Option.bind_some] at h3
        have vw3 := o3.vw r3 e3
        cases e4 : getD3 d3 k y with
        | none => rw [e4] at h3; exact (show False from h3).elim
        | some z =>
          rw [e4] at h3
          have okz := (h3.ext x3).done r3
          unfold getD3 at e4
          split at e4
          · rename_i kvs
            cases ek : keyK k with
            | none => rw [ek] at e4; cases e4
            | some q =>
              rw [ek] at e4
              cases e4
              obtain ⟨p, kv, q0, q1, q2, q3⟩ := vw3.dKE r3.sub
              cases q0
              have eu : u = kV q := keyKE (F := F3) (H := F3) (.rep p2') ek
              subst eu
              refine ⟨_, .inl ⟨kv, q, q1, rfl, rfl⟩, ?_⟩
              obtain ⟨l1, l2⟩ := look_val (F := F3) q q2 q3
              cases el : look kvs q with
              | none => rw [l1 el]; rw [el] at okz; exact okz.here r3.sub p3
              | some dd =>
                obtain ⟨vv, g1, g2⟩ := l2 dd el
                rw [g1]; rw [el] at okz; exact okz.here r3.sub g2
          · rename_i kvs
            cases ek : keyT k with
            | none => rw [ek] at e4; cases e4
            | some q =>
              rw [ek] at e4
              cases e4
              obtain ⟨p, kv, q0, q1, q2, q3⟩ := vw3.dTE r3.sub
              cases q0
              obtain ⟨b, b1, b2⟩ := keyTE r3.sub (.rep p2') ek
              subst b1
              refine ⟨_, .inr ⟨kv, q, b, q1, rfl, b2, rfl⟩, ?_⟩
              obtain ⟨l1, l2⟩ := look_val (F := F3) q q2 q3
              cases el : look kvs q with
              | none => rw [l1 el]; rw [el] at okz; exact okz.here r3.sub p3
              | some dd =>
                obtain ⟨vv, g1, g2⟩ := l2 dd el
                rw [g1]; rw [el] at okz; exact okz.here r3.sub g2
          · cases e4
    · rw [if_neg c] at h1; exact (show False from h1).elim
end VL
/-! V26: index; keys (tuples that dicts take), a display of one pair with such a key. -/
namespace VL
open PySem PySem.Spec L2

/-! ### index -/
section
variable {X : Cx} {ks : List Sh} {W : WX} {o e : Expr} {to te : TE} {m mx : ME} {mo : MO} {apos cpos : Pos}
end

/-! ### keys made -/
def mKey (a : MA) : ME := fun ρ => (a ρ).bind fun ds ρ1 => if ds.length ≤ 16777216 then R.of ((keyTs ds).bind fun k => some (.key k)) ρ1 else .no
section
variable {X : Cx} {ks : List Sh} {W : WX} {es : List Expr} {pos : Pos}
/-! ### {key: v} -/
end
end VL
/-! V27: a list unpacked. -/
namespace VL
open PySem PySem.Spec L2
def kLst' (k : Nat) (n : List D → DEnv → Option DEnv) : D → DEnv → Option DEnv
  | .lst ds, ρ => if ds.length = k then n ds ρ else none
  | _, _ => none
section
variable {ρ : DEnv} {i : Nat}
@[simp] theorem e_kLst (l : List D → DEnv → Option DEnv) (ds : List D) : kLst' i l (.lst ds) ρ = if ds.length = i then l ds ρ else none := rfl
@[simp] theorem e_Ks (m : ME) : mKs m ρ = (m ρ).bind asKy := rfl
@[simp] theorem e_Its (m : ME) : mIts m ρ = (m ρ).bind asIt := rfl
@[simp] theorem e_key (t : MA) : mKey t ρ = (t ρ).bind fun ds ρ1 => if ds.length ≤ 16777216 then R.of ((keyTs ds).bind fun k => some (.key k)) ρ1 else .no := rfl
@[simp] theorem e_get (mo : MO) (mk mx : ME) : mGet mo mk mx ρ = (mo ρ).bind fun o ρ1 => if (o.get ρ1).any D.isDc = true then (mk ρ1).bind fun k ρ2 => (mx ρ2).bind fun x ρ3 => R.of ((o.get ρ3).bind fun d => getD3 d k x) ρ3 else .no := rfl
end
end VL
/-! V28: count of whole numbers in a list. -/
namespace VL
open PySem PySem.Spec L2
end VL
/-! V29: list(range(a, b)). -/
namespace VL
open PySem PySem.Spec L2
def mLR2 (ma mc : ME) : ME := fun ρ => (ma ρ).bind fun d ρ1 => match d with
  | .int i => (mc ρ1).bind fun e ρ2 => (match e with
    | .int j => if -1000000 ≤ i ∧ i ≤ 1000000 ∧ -1000000 ≤ j ∧ j ≤ 1000000 then .ok (.lst (rangeD i (j - i).toNat)) ρ2 else .no
    | _ => .no)
  | _ => .no
def mLR1 (ma : ME) : ME := fun ρ => (ma ρ).bind fun d ρ1 => match d with
  | .int i => if -1000000 ≤ i ∧ i ≤ 1000000 then .ok (.lst (rangeD 0 i.toNat)) ρ1 else .no
  | _ => .no
@[simp] theorem e_LR2 {ma mc : ME} {ρ : DEnv} : mLR2 ma mc ρ = (ma ρ).bind fun d ρ1 => match d with
  | .int i => (mc ρ1).bind fun e ρ2 => (match e with
    | .int j => if -1000000 ≤ i ∧ i ≤ 1000000 ∧ -1000000 ≤ j ∧ j ≤ 1000000 then .ok (.lst (rangeD i (j - i).toNat)) ρ2 else .no
    | _ => .no)
  | _ => .no := rfl
@[simp] theorem e_LR1 {ma : ME} {ρ : DEnv} : mLR1 ma ρ = (ma ρ).bind fun d ρ1 => match d with
  | .int i => if -1000000 ≤ i ∧ i ≤ 1000000 then .ok (.lst (rangeD 0 i.toNat)) ρ1 else .no
  | _ => .no := rfl
end VL
/-! V30: texts less than texts. -/
namespace VL
open PySem PySem.Spec L2
def ltSD : D → D → Option D
  | .str x, .str y => some (.bl (decide (x.cps.toList < y.cps.toList)))
  | _, _ => none
@[simp] theorem d_ltS (x y : Str) : ltSD (.str x) (.str y) = some (.bl (decide (x.cps.toList < y.cps.toList))) := rfl
end VL
/-! V31: walks over a list or a tuple; told texts in a list of told texts. -/
namespace VL
open PySem PySem.Spec L2
def mSqs (m : ME) : MA := fun ρ => match m ρ with
  | .ok (.lst _) _ => mLs m ρ
  | _ => mTs m ρ
@[simp] theorem e_SqL {m : ME} {ρ ρ' : DEnv} {ds : List D} (h : m ρ = .ok (.lst ds) ρ') : mSqs m ρ = .ok ds ρ' := by
  unfold mSqs
  rw [h]
  show mLs m ρ = _
  unfold mLs
  rw [h]; rfl
@[simp] theorem e_SqT {m : ME} {ρ ρ' : DEnv} {ds : List D} (h : m ρ = .ok (.tup ds) ρ') : mSqs m ρ = .ok ds ρ' := by
  unfold mSqs
  rw [h]
  show mTs m ρ = _
  unfold mTs
  rw [h]; rfl
end VL
/-! V32: the least of a tuple of whole numbers. -/
namespace VL
open PySem PySem.Spec L2 PyProof.Rows
section
variable {prog : Program} {w : World} {A : Around} {E : Value → Shared → Prop} {s : Shared} {l : Addr} {its : List Value} {ns : List Int} {Q : Value → Shared → Prop}
end
end VL
/-! V33: the begin of a def that calls itself. -/
namespace VL
open PySem PySem.Spec L2
end VL
/-! V34: the sum of a tuple of whole numbers. -/
namespace VL
open PySem PySem.Spec L2 PyProof.Rows
end VL
/-! V35: a slot's shape changes for the rest of a block (what it held is forgotten). -/
namespace VL
open PySem PySem.Spec L2
def R.mapE {α : Type} (f : DEnv → DEnv) : R α → R α
  | .ok a ρ => .ok a (f ρ)
  | .ex e ρ => .ex e (f ρ)
  | .no => .no
theorem RelL.resh {K : PySem.W.Frag} {F H : Hp} (s : Sh) : ∀ {ks : List Sh} {ρ : DEnv} {σ : St} {fp : List Addr} (i : Nat), RelL K F H ks ρ σ fp → ∃ g, RelL K F H (ks.set i s) (ρ.set i none) σ g ∧ g.Sublist fp
  | _, _, _, _, i, .nil => ⟨[], .nil, .refl _⟩
  | _, _, _, _, 0, .non r => ⟨_, .non r, .refl _⟩
  | _, _, _, _, 0, .som o r => ⟨_, .non r, List.sublist_append_right _ _⟩
  | _, _, _, _, i + 1, .non r => by
    obtain ⟨g, a, b⟩ := RelL.resh s i r
    exact ⟨g, .non a, b⟩
  | _, _, _, _, i + 1, .som o r => by
    obtain ⟨g, a, b⟩ := RelL.resh s i r
    exact ⟨_, .som o a, List.Sublist.append (.refl _) b⟩
theorem Rel.resh {K : PySem.W.Frag} {ks : List Sh} {F H : Hp} {ρ : DEnv} {σ : St} {fp : List Addr} (r : Rel K ks F H ρ σ fp) (i : Nat) (s : Sh) : ∃ g, Rel K (ks.set i s) F H (ρ.set i none) σ g ∧ g.Sublist fp := by
  obtain ⟨g, a, b⟩ := r.sl.resh s i
  exact ⟨g, ⟨r.sub, r.nd.sublist b, a⟩, b⟩
section
variable {X : Cx} {ks : List Sh} {W : WX} {rsh : Sh} {fx : Nat} {sts : List Stmt} {t : TS} {m : MS}
end
end VL
/-! V36: refusals: __init__ of own exception classes, raise, try .. except .. as e, isinstance(e, ..), e.field. -/
namespace VL
open PySem PySem.Spec L2

/-! ### B.__init__(self, ..), B an own class whose __init__ is ValueError's -/
theorem pe_cinit {X : Cx} {x : Str} {B : Addr} {mc : Value} {e : Expr} {es : List Expr} {ta : TA} {p1 p2 pos : Pos} {pl : Sem Bool} (hg : Gl X x) (gB : X.mg x = some (.ref B)) (rd : ClX.CRead X.K B mc)
    (vV : PySem.W.findCls X.K (.ref B) mc "__init__" = some (.val (.builtin "ValueError.__init__"))) (ha : PA X (e :: es) ta) (hdb : (x == ("__debug__" : Str)) = false := by decide)
    (hc : eval (.Call (.Attribute (.Name x p1) "__init__" p2) (e :: es) [] pos) X.env = (do
      let ov ← eval (.Name x p1) X.env
      standAt p2.atName
      let (f, first) ← holding [ov] (getMethod ov "__init__" pl)
      callWith pos f first (backTo pos (starEach (e :: es) X.env)) (backToKw pos (keywordEach [] X.env))) := by rfl)
    (he : starEach (e :: es) X.env = (false, eval e X.env) :: starEach es X.env := by rfl) (hpl : (backTo pos (starEach es X.env)).any (·.1) = false := by rfl) :
    PE X (.Call (.Attribute (.Name x p1) "__init__" p2) (e :: es) [] pos) (tVeI X.K ta) := by
  refine ⟨fun pins s σ H Q I h => ?_⟩
  refine PySem.W.methodCall_KW (ld_glob I hg gB ?_ hdb) hc
  refine PySem.W.method_cls I.kIn rd.ga (PySem.W.cls_value I.kIn rd.rd vV (by decide +kernel) ?_)
  show wpAny _ _ (callWith pos (Value.builtin "ValueError.__init__") [] (backTo pos (starEach (e :: es) X.env)) []) _ _ _
  refine PyProof.Rows.callWith_method1 (thn (ha.run pos pins _ σ H _ (I.tok _) h) fun us s1 ⟨vs, H1, I1, r1, a, C, ws, ev, hl, T, ea, q⟩ => ?_) he hpl
  subst ev
  cases r1 with
  | @cons _ u0 _ ur ra rw' =>
    obtain rfl : u0 = Value.ref a := ra
    have hlen : ur.length ≤ sizeLine := by
      rw [← Paired.length rw', sizeLine_eq]
      omega
    exact oinit_ok T I1 ea hlen fun s' J => ⟨.non, H1, J, rfl, q⟩

/-! ### __init__: its promise -/
def zipr (fs : List Str) (ws : List V) : List (Str × V) := (fs.zip ws).reverse
def spI (K : PySem.W.Frag) (C : Addr) (fs : List Str) : Sp := fun vs H Q _ => ∃ a ws, vs = .ref a :: ws ∧ ws.length = fs.length ∧ H a = some (exo a C none) ∧
  ∀ dx H', H dx = none → dx ≠ a → H' a = some (exo a C (some dx)) → H' dx = some (exd dx (zipr fs ws)) → (∀ b, b ≠ a → b ≠ dx → H' b = H b) → Q .non H'
/-- one field -/
theorem init_end1 {K : PySem.W.Frag} {C : Addr} {f : Str} {vs : List V} {H : Hp} {Q : VK} {E : XK} (T : OexC K C) (no : PySem.W.findIn K (.ref C) f = some none) (h : spI K C [f] vs H Q E) {N : List Str} (hN : N.length = 2) :
    (tSeq (tDrop (tVeI K (tCons (tVar 0) (tCons (tVar 1) tNil)))) (tOst K f (tVar 0) (tVar 1))) { nx := fun _ H' => Q .non H', rt := Q } (L2.start N vs) H := by
  obtain ⟨a, ws, rfl, hl, ea, k⟩ := h
  obtain ⟨y, rfl⟩ : ∃ y, ws = [y] := by
    match ws, hl with
    | [y], _ => exact ⟨y, rfl⟩
  have e : L2.start N [.ref a, y] = [some (.ref a), some y] := by
    unfold L2.start
    rw [hN]; rfl
  rw [e]
  refine ⟨_, rfl, _, rfl, a, C, [y], rfl, by simp, T, ea, ?_⟩
  refine ⟨_, rfl, _, rfl, a, C, rfl, T, no, .inl ⟨ea, fun dx n ne => ?_⟩⟩
  refine k dx _ n ne upd_same ?_ fun b h1 h2 => ?_
  · rw [upd_ne ne, upd_same]; rfl
  · rw [upd_ne h1, upd_ne h2]
/-! ### raise -/
/-- what is asked of a class that is raised: c its name, fs its fields -/
structure ExK (P : Program) (w : World) (K : PySem.W.Frag) (mg : Str → Option Value) (base : Heap) (c : Str) (fs : List Str) (C : Addr) : Prop where
  gC : mg c = some (.ref C)
  ox : OexC K C
  iC : ∃ fI fd ps, PySem.W.findIn K (.ref C) "__init__" = some (some (.ref fI)) ∧ PySem.W.typeIn K (.ref fI) = some (.type "function") ∧ FnOk P w K mg base CX0 1 fI fd ps (spI K C fs) ∧ Binds K fd ps []
/-- .. that has no fields and no __init__ of its own -/
structure ExN (K : PySem.W.Frag) (mg : Str → Option Value) (c : Str) (C : Addr) : Prop where
  gC : mg c = some (.ref C)
  ex : ∃ B newId initId bmB, ExcBaseFacts B newId initId bmB ∧ PySem.W.excIn K C bmB newId = true
  kC : PySem.W.keepIn K (.ref C) = true
  bC : PySem.W.subIn K (.ref C) (.type "BaseException") = some true
  tC : PySem.W.typeIn K (.ref C) = some (.type "type")
def mRaise (c : Str) (fs : List Str) (a : MA) : MS := fun ρ => (a ρ).bind fun ds ρ1 => if ds.length = fs.length then .ex ⟨c, (fs.zip ds).reverse⟩ ρ1 else .no
theorem zip_fst {fs : List Str} {ds : List D} (h : ds.length = fs.length) : ((fs.zip ds).reverse).map Prod.fst = fs.reverse := by
  rw [List.map_reverse]
  congr 1
  rw [List.map_fst_zip]
  omega
theorem zip_snd {fs : List Str} {ds : List D} (h : ds.length = fs.length) : ((fs.zip ds).reverse).map Prod.snd = ds.reverse := by
  rw [List.map_reverse]
  congr 1
  rw [List.map_snd_zip]
  omega
theorem zip_rev {fs : List Str} {vs : List V} (h : vs.length = fs.length) : fs.reverse.zip vs.reverse = (fs.zip vs).reverse := by
  induction fs generalizing vs with
  | nil => 
    cases vs with
    | nil => rfl
    | cons v vs => cases h
  | cons f fs ih =>
    cases vs with
    | nil => cases h
    | cons v vs =>
      have h' : vs.length = fs.length := Nat.succ.inj h
      rw [List.reverse_cons, List.reverse_cons, List.zip_append (by rw [List.length_reverse, List.length_reverse]; exact h'.symm), ih h', List.zip_cons_cons]
      show (fs.zip vs).reverse ++ [(f, v)] = ((f, v) :: fs.zip vs).reverse
      rw [List.reverse_cons]
section
variable {X : Cx} {ks : List Sh} {W : WX} {rsh : Sh} {fx : Nat} {e : Expr} {es : List Expr} {ta : TA} {ma : MA} {c : Str} {fs : List Str} {C : Addr} {p pos pos' p2 : Pos}
theorem sv_raise (Z : ExK X.prog X.w X.K X.mg X.base c fs C) (hc : X.calm = true) (tk : Takes X W) (hr : Room 2 X.A) (hfs : fs.length ≤ 1000) (ha : EA X ks W (e :: es) ta ma) (hg : Gl X c := by rfl) (hdb : (c == ("__debug__" : Str)) = false := by decide)
    (he : starEach (e :: es) X.env = (false, eval e X.env) :: starEach es X.env := by rfl) (hpl : (backTo pos (starEach es X.env)).any (·.1) = false := by rfl) :
    SV X ks W rsh fx (.Raise (some (.Call (.Name c p) (e :: es) [] pos)) none pos') (fun _ σ H => tMkO C (spI X.K C fs) [] ta σ H fun cls d H' => W cls d σ H') (mRaise c fs ma) := by
  obtain ⟨fI, fd, ps, iC, tI, F1, hb⟩ := Z.iC
  refine ⟨ps_raise hc tk (pmk_oex (k := 1) Z.ox iC tI F1 hr hb .nil pass0 hg Z.gC ha.pe hdb he hpl), fun ρ σ F H fp D r hok => ?_⟩
  unfold mRaise at hok
  refine ha.sd.go r (Ok := OkS (bd X ks W) rsh fx F H fp σ D) hok (fun z => z) (fun _ _ z => z.x) fun ds ρ1 vs F1 H1 fp1 h1 r1 x1 p1 => ?_
  by_cases hn : ds.length = fs.length
  · rw [if_pos hn] at h1
    have hv : vs.length = fs.length := p1.length.trans hn
    refine ⟨by omega, fun a na => ⟨a, vs ++ [], rfl, by rw [List.append_nil]; exact hv, upd_same, fun dx H' ndx ne e1 e2 e3 => ?_⟩⟩
    have nd1 : H1 dx = none := by rw [upd_ne ne] at ndx; exact ndx
    rw [List.append_nil] at e2
    refine ⟨rfl, dx, zipr fs vs, e1, e2, nd1, ?_⟩
    have eH : upd (del H' a) dx (.xd (zipr fs vs)) = upd H1 dx (.xd (zipr fs vs)) := by
      funext b
      by_cases hb : b = dx
      · rw [hb, upd_same, upd_same]
      · rw [upd_ne hb, upd_ne hb]
        by_cases hba : b = a
        · rw [hba, del_same, na]
        · rw [del_ne hba, e3 b hba hb, upd_ne hba]
    rw [eH]
    have al := upd_alc (o := .xd (zipr fs vs)) r1.sub nd1
    obtain ⟨r2, _, x2⟩ := al.rel (fv := []) r1 (fun _ m => by simp at m) List.nodup_nil
    rw [List.append_nil] at x2
    have h2 := h1 (.ref C) (some dx) σ _ _ fp1 r2 (x1.trans x2) rfl
    refine h2 ⟨C, Z.gC, rfl, .inr ⟨dx, vs.reverse, rfl, ?_, ?_⟩⟩
    · rw [upd_same, zip_fst hn, zip_rev hv]; rfl
    · rw [zip_snd hn]
      exact (p1.mono (al.same r1.sub)).reverse
  · rw [if_neg hn] at h1; exact (show False from h1).elim
theorem sv_raiseN {m : Str} {j : Nat} (Z : ExN X.K X.mg c C) (hc : X.calm = true) (tk : Takes X W) (hg : Gl X c := by rfl) (hdb : (c == ("__debug__" : Str)) = false := by decide) :
    SV X ks W rsh fx (.Raise (some (.Call (.Name c p) [.Constant (.str m) j p2] [] pos)) none pos') (fun _ σ H => W (.ref C) none σ H) (fun ρ => .ex ⟨c, []⟩ ρ) := by
  obtain ⟨B, newId, initId, bmB, FB, q⟩ := Z.ex
  refine ⟨ps_raise hc tk (pmk_own FB q Z.gC Z.kC (raises_own Z.bC Z.tC) hg hdb), fun ρ σ F H fp D r hok => ?_⟩
  exact hok (.ref C) none σ F H fp r .refl rfl ⟨C, Z.gC, rfl, .inl ⟨rfl, rfl⟩⟩
end

/-! ### isinstance(e, C), isinstance(e, (C, ..)), e.f in a suite -/
def IsAns (K : PySem.W.Frag) (H : Hp) (C : Addr) (xs : List V) (a : Addr) (b : Bool) : Prop :=
  (∃ c cv, xs = [.ref a, c] ∧ (∀ u, RelV c u → u = cv) ∧ PySem.W.kitOne K (.ref C) cv = some b) ∨ (∃ tp vs its, xs = [.ref a, .ref tp] ∧ TupF H tp vs ∧ (∀ us, Vals vs us → us = its) ∧ PySem.W.kitAny K (.ref C) its = some b)
def rIsX (K : PySem.W.Frag) (a : Addr) (cls : Value) (d : Option Addr) : List V → Hp → VK → Prop := fun xs H Q =>
  ∃ C, cls = .ref C ∧ ExcC K C ∧ (∀ dd, d = some dd → ∃ fs, H dd = some (.xd fs)) ∧ ∃ b, IsAns K H C xs a b ∧ Q (.bl b) H
theorem excC_cl {K : PySem.W.Frag} {C : Addr} (h : ExcC K C) : (PySem.W.clsIn K C).isSome = true := by
  obtain ⟨cd, hc, _⟩ := PySem.W.any_some h.hd
  rw [hc]; rfl
theorem call_isX {X : Cx} {a : Addr} {oe : Obj} {pn : List (Addr × Obj)} {cls : Value} {d : Option Addr} (hz : Zc cls d oe) (hf : ∃ vs, oe.data = .fields vs) : CallR (X.suite a ((a, oe) :: pn)) (.builtin "isinstance") (rIsX X.K a cls d) := by
  intro pins s σ H xs us Q I r h
  obtain ⟨C, rfl, E, hd, b, hans, q⟩ := h
  obtain ⟨hget, _⟩ := I.pin (a, oe) (List.mem_append.mpr (.inl List.mem_cons_self))
  obtain ⟨fv, hv⟩ := hf
  have J : ∃ od, PySem.W.InstAt s.heap a oe C od := by
    cases d with
    | none =>
      obtain ⟨oc, od, oda, osl⟩ := oe
      obtain ⟨h1, h2⟩ := hz
      dsimp only at h1 h2 hv
      subst h1 h2 hv
      exact ⟨none, hget, rfl, rfl, trivial⟩
    | some dd =>
      obtain ⟨fs, ed⟩ := hd dd rfl
      have hx : ObjOk X.prog X.w H s.heap dd (.xd fs) := I.hok dd _ ed
      obtain ⟨mA, hns, hr⟩ := hx
      obtain ⟨od, ho, hl⟩ := lookIn_ns hns
      exact ⟨some od, hget, hz.1, by unfold PySem.W.notCls; rw [hv] <;> rfl, by rw [hz.2]; exact ho⟩
  obtain ⟨od, J⟩ := J
  have KX := PySem.W.kitx_exc (K := X.K) (x := a) (ox := oe) (od := od) (excC_cl E) E.hg E.hk E.hs E.ha E.hn E.ht E.hm
  rcases hans with ⟨c, cv, rfl, hcv, e⟩ | ⟨tp, vs, its, rfl, ht, hv2, e⟩
  · cases r with
    | cons rx rr =>
      cases rr with
      | cons rt rr =>
        cases rr
        cases rx
        have ec := hcv _ rt
        subst ec
        exact PySem.W.kia_one KX I.kIn J e (fun z => nomatch z) fun tk => ⟨.bl b, H, I.kept (t' := tk) fun _ _ z => z, rfl, q⟩
  · cases r with
    | cons rx rr =>
      cases rr with
      | cons rt rr =>
        cases rr
        cases rx
        cases rt
        obtain ⟨its', r1, ⟨⟨tc, dd, data, sl⟩, ho, hc, n, hdt⟩, hs⟩ := I.tuple (ht.sq X.K)
        simp only at hc hdt
        subst hc hdt
        have ei := hv2 _ r1
        subst ei
        exact PySem.W.kia_tup KX I.kIn J ho e (fun z => nomatch z) fun tk => ⟨.bl b, H, I.kept (t' := tk) fun _ _ z => z, rfl, q⟩
/-- e is of class c: told by a table -/
def mIsE (i : Nat) (tbl : List (Str × Bool)) : ME := fun ρ => match own ρ i with
  | some (.ob c _) => (match tbl.lookup c with | some b => .ok (.bl b) ρ | none => .no)
  | _ => .no
def mFld (i : Nat) (c f : Str) : ME := fun ρ => match own ρ i with
  | some (.ob c' fs) => if c' = c then R.of (fs.lookup f) ρ else .no
  | _ => .no
theorem lookup_mem {α : Type} {c : Str} {b : α} : ∀ {l : List (Str × α)}, l.lookup c = some b → (c, b) ∈ l
  | (x, y) :: l, h => by
    rw [List.lookup_cons] at h
    by_cases e : c = x
    · subst e
      simp at h
      subst h
      exact List.mem_cons_self
    · have : (c == x) = false := by simpa using e
      rw [this] at h
      exact List.mem_cons_of_mem _ (lookup_mem h)
/-- what the exception's slot tells -/
theorem Rel.excE {K : PySem.W.Frag} {ks : List Sh} {F H : Hp} {ρ : DEnv} {σ : St} {fp : List Addr} {i : Nat} {mg : Str → Option Value} {a : Addr} {cls : Value} {d : Option Addr} {c : Str} {fs : List (Str × D)} (r : Rel K ks F H ρ σ fp) (hk : ks[i]? = some (.exc mg a cls d)) (e : own ρ i = some (.ob c fs)) :
    σ[i]? = some (some (.ref a)) ∧ ∃ C, mg c = some (.ref C) ∧ cls = .ref C ∧ (fs = [] ∧ d = none ∨ ∃ dd vs, d = some dd ∧ F dd = some (.xd ((fs.map Prod.fst).zip vs)) ∧ Reps K F vs (fs.map Prod.snd)) := by
  obtain ⟨v, f, g, s1, o1, _, _⟩ := r.sl.split hk (getE e)
  cases o1 with
  | exc e1 e2 => exact ⟨s1, _, e1, rfl, e2⟩
section
variable {X : Cx} {ks : List Sh} {W : WX} {i : Nat} {a : Addr} {cls : Value} {d : Option Addr} {oe : Obj} {pn : List (Addr × Obj)} {x : Str} {p p1 pos : Pos}
/-- the facts of an isinstance: of each class of the table its answer -/
def IsT (K : PySem.W.Frag) (mg : Str → Option Value) (ans : Addr → Bool → Prop) (tbl : List (Str × Bool)) : Prop := ∀ q ∈ tbl, ∃ C, mg q.1 = some (.ref C) ∧ ExcC K C ∧ ans C q.2
/-- the answer's readings, from a table's row -/
theorem isX_sd {b : Bd} {t : TA} {ans : Addr → Bool → Prop} {tbl : List (Str × Bool)} (hk : b.ks[i]? = some (.exc b.mg a cls d)) (facts : IsT b.K b.mg ans tbl)
    (ht : ∀ C k σ F H fp Q ρ, Rel b.K b.ks F H ρ σ fp → σ[i]? = some (some (.ref a)) → ans C k → (∀ xs F' H', (∀ x o, H x = some o → H' x = some o) → IsAns b.K H' C xs a k → Alc F H F' H' → Q xs H') → t σ H Q) : SndE b .leaf (tCB (rIsX b.K a cls d) t) (mIsE i tbl) := by
  intro ρ σ F H fp Q r hok
  unfold mIsE at hok
  cases e0 : own ρ i with
  | none => rw [e0] at hok; exact (show False from hok).elim
  | some dd =>
    rw [e0] at hok
    cases dd with
    | ob c fs =>
      dsimp only at hok
      cases e1 : tbl.lookup c with
      | none => rw [e1] at hok; exact (show False from hok).elim
      | some k =>
        rw [e1] at hok
        obtain ⟨s1, C, e2, ecls, hd⟩ := r.excE hk e0
        obtain ⟨C', e3, E, ak⟩ := facts _ (lookup_mem e1)
        have eC : C' = C := by
          have := e3.symm.trans e2
          cases this; rfl
        subst eC
        refine ht C' k σ F H fp _ ρ r s1 ak fun xs F' H' keep ia al => ?_
        refine ⟨C', ecls, E, fun d' ed => ?_, k, ia, ?_⟩
        · rcases hd with ⟨_, z⟩ | ⟨d2, vs, z, e4, _⟩
          · rw [z] at ed; cases ed
          · rw [z] at ed; cases ed
            exact ⟨_, keep _ _ (r.sub _ _ e4)⟩
        · obtain ⟨r2, nd2, x2⟩ := al.rel (fv := []) r (fun _ m => by simp at m) List.nodup_nil
          rw [List.append_nil] at x2
          exact hok (.bl k) F' H' fp [] r2 (by rw [List.append_nil]; exact r2.nd) (by rw [List.append_nil]; exact x2) (.leaf (.bl k))
    | _ => exact (show False from hok).elim
theorem ev_isX {e c : Expr} {vc : V} {cv : Value} (tbl : List (Str × Bool)) (hz : Zc cls d oe) (hf : ∃ vs, oe.data = .fields vs) (facts : IsT X.K X.mg (fun C b => PySem.W.kitOne X.K (.ref C) cv = some b) tbl)
    (he : PE (X.suite a ((a, oe) :: pn)) e (tVar i)) (hc : PE (X.suite a ((a, oe) :: pn)) c (tC vc)) (rel : ∀ u, RelV vc u → u = cv) (hm : X.mg "isinstance" = none) (hk : ks[i]? = some (.exc X.mg a cls d) := by rfl) (hg : Gl (X.suite a ((a, oe) :: pn)) "isinstance" := by rfl)
    (hv : bootBuiltins "isinstance" = some (.builtin "isinstance") := by decide +kernel)
    (h1 : starEach [e, c] X.env = (false, eval e X.env) :: starEach [c] X.env := by rfl) (h2 : starEach [c] X.env = (false, eval c X.env) :: starEach [] X.env := by rfl) (hpl : (backTo pos (starEach [c] X.env)).any (·.1) = false := by rfl) :
    EV (X.suite a ((a, oe) :: pn)) ks W (.Call (.Name "isinstance" p) [e, c] [] pos) .leaf (tCB (rIsX X.K a cls d) (tCons (tVar i) (tCons (tC vc) tNil))) (mIsE i tbl) :=
  ⟨pe_callB (call_isX hz hf) hg hm hv (pa_cons he (pa_cons hc pa_nil h2) h1) (by decide) (by decide) h1 hpl,
    isX_sd (b := bd (X.suite a ((a, oe) :: pn)) ks W) hk facts fun C k σ F H fp Q ρ r s1 ak h => ⟨_, s1, h _ F H (fun _ _ z => z) (.inl ⟨vc, cv, rfl, rel, ak⟩) (.refl r.sub)⟩⟩
/-- .. of a tuple of classes -/
def tCs : List V → TA
  | [] => tNil
  | v :: vs => tCons (tC v) (tCs vs)
theorem tCs_of {Q : List V → Hp → Prop} {σ : St} {H : Hp} : ∀ {vs : List V} {k : List V → List V}, Q (k vs) H → tCs vs σ H fun xs H1 => Q (k xs) H1
  | [], _, h => h
  | v :: vs, k, h => tCs_of (vs := vs) (k := fun xs => k (v :: xs)) h
theorem ev_isXT {e : Expr} {cs : List Expr} {vs : List V} {its : List Value} {tpos : Pos} {tx} (tbl : List (Str × Bool)) (hz : Zc cls d oe) (hf : ∃ vs, oe.data = .fields vs) (facts : IsT X.K X.mg (fun C b => PySem.W.kitAny X.K (.ref C) its = some b) tbl)
    (he : PE (X.suite a ((a, oe) :: pn)) e (tVar i)) (hc : PA (X.suite a ((a, oe) :: pn)) cs (tCs vs)) (lv : vs.length ≤ 1000) (rel : ∀ us, Vals vs us → us = its) (hm : X.mg "isinstance" = none) (hk : ks[i]? = some (.exc X.mg a cls d) := by rfl) (hg : Gl (X.suite a ((a, oe) :: pn)) "isinstance" := by rfl)
    (hv : bootBuiltins "isinstance" = some (.builtin "isinstance") := by decide +kernel)
    (h1 : starEach [e, .Tuple cs tx tpos] X.env = (false, eval e X.env) :: starEach [.Tuple cs tx tpos] X.env := by rfl) (h2 : starEach [.Tuple cs tx tpos] X.env = (false, eval (.Tuple cs tx tpos) X.env) :: starEach [] X.env := by rfl) (hpl : (backTo pos (starEach [.Tuple cs tx tpos] X.env)).any (·.1) = false := by rfl) :
    EV (X.suite a ((a, oe) :: pn)) ks W (.Call (.Name "isinstance" p) [e, .Tuple cs tx tpos] [] pos) .leaf (tCB (rIsX X.K a cls d) (tCons (tVar i) (tCons (tTupF (tCs vs)) tNil))) (mIsE i tbl) :=
  ⟨pe_callB (call_isX hz hf) hg hm hv (pa_cons he (pa_cons (pe_tupF hc) pa_nil h2) h1) (by decide) (by decide) h1 hpl,
    isX_sd (b := bd (X.suite a ((a, oe) :: pn)) ks W) hk facts fun C k σ F H fp Q ρ r s1 ak h => ⟨_, s1, by
      change tCs vs σ H fun xs H1 => xs.length ≤ sizeLine ∧ ∀ p us, H1 p = none → Q [.ref a, .ref p] (upd H1 p (tupC us xs))
      refine tCs_of (vs := vs) (k := fun xs => xs) (Q := fun xs H1 => xs.length ≤ sizeLine ∧ ∀ p us, H1 p = none → Q [.ref a, .ref p] (upd H1 p (tupC us xs))) ?_
      refine ⟨by rw [sizeLine_eq]; exact Nat.le_trans lv (by decide), fun tp us np => ?_⟩
      have al := upd_alc (o := tupC us vs) r.sub np
      exact h _ _ _ (fun x o z => (al.keep x o z).1) (.inr ⟨tp, vs, its, rfl, ⟨us, upd_same⟩, rel, ak⟩) al⟩⟩
/-- e.f -/
theorem ev_fldX {e : Expr} {C : Addr} {c f : Str} (hz : Zc cls d oe) (hf : ∃ vs, oe.data = .fields vs) (gC : X.mg c = some (.ref C)) (T : XfC X.K C) (no : PySem.W.findIn X.K (.ref C) f = some none) (he : PE (X.suite a ((a, oe) :: pn)) e (tVar i))
    (hk : ks[i]? = some (.exc X.mg a cls d) := by rfl) (hb : attributeBase e f X.env (eval e X.env) = eval e X.env := by rfl) :
    EV (X.suite a ((a, oe) :: pn)) ks W (.Attribute e f pos) .leaf (tXf a cls d C f (tVar i)) (mFld i c f) := by
  refine ⟨pe_xf T no hz hf he hb, fun ρ σ F H fp Q r hok => ?_⟩
  unfold mFld at hok
  cases e0 : own ρ i with
  | none => rw [e0] at hok; exact (show False from hok).elim
  | some dd =>
    rw [e0] at hok
    cases dd with
    | ob c' fs =>
      dsimp only at hok
      by_cases ec : c' = c
      · rw [if_pos ec] at hok
        subst ec
        obtain ⟨s1, C', e2, ecls, hd⟩ := r.excE hk e0
        have eC : C' = C := by
          have := e2.symm.trans gC
          cases this; rfl
        subst eC
        cases e1 : fs.lookup f with
        | none => rw [e1] at hok; exact (show False from hok).elim
        | some z =>
          rw [e1] at hok
          rcases hd with ⟨z', _⟩ | ⟨d2, vs, ed, e4, rp⟩
          · rw [z'] at e1; cases e1
          · have key : ∀ {fs : List (Str × D)} {vs : List V}, Reps X.K F vs (fs.map Prod.snd) → fs.lookup f = some z → ∃ v, ((fs.map Prod.fst).zip vs).lookup f = some v ∧ Rep X.K F v z := by
              intro fs
              induction fs with
              | nil => intro vs _ h; cases h
              | cons q fs ih =>
                intro vs rp h
                obtain ⟨g, y⟩ := q
                cases rp with
                | @cons v _ vs' _ ra rb =>
                  rw [List.lookup_cons] at h
                  rw [List.map_cons, List.zip_cons_cons, List.lookup_cons]
                  cases hb : (f == g) with
                  | true => rw [hb] at h; cases h; exact ⟨v, rfl, ra⟩
                  | false => rw [hb] at h; exact ih rb h
            obtain ⟨v, l1, rv⟩ := key rp e1
            exact ⟨_, s1, rfl, ecls, d2, _, v, ed, r.sub _ _ e4, l1, (OkE.done hok r).here r.sub rv⟩
      · rw [if_neg ec] at hok; exact (show False from hok).elim
    | _ => exact (show False from hok).elim
end

/-! ### try: .. except B as e: suite -/
def mTry (i : Nat) (caught : List Str) (mb ms : MS) : MS := fun ρ => match mb ρ with
  | .ok f ρ1 => .ok f ρ1
  | .ex e ρ1 => if caught.contains e.c then (match ms (ρ1.set i (some (.ob e.c e.fs))) with
      | .ok f ρ2 => .ok f (ρ2.set i none)
      | _ => .no) else .no
  | .no => .no
def tbU (X : Cx) (body : List Stmt) : WX → TS := fun W D σ H => ∀ (pn : List (Addr × Obj)) (xe : Value → Shared → Prop), Takes (X.tr pn xe) W → PassesOwn (model X.prog X.w) X.A X.env xe → ∃ t, PSs (X.tr pn xe) body t ∧ t D σ H
def tsU (X : Cx) (suite : List Stmt) : Addr → Value → Option Addr → TS := fun a cls d D σ H => ∀ (oe : Obj) (pn : List (Addr × Obj)), Zc cls d oe → (∃ vs, oe.data = .fields vs) → ∃ t, PSs (X.suite a ((a, oe) :: pn)) suite t ∧ t D σ H
section
variable {X : Cx} {ks : List Sh} {W : WX} {rsh : Sh} {fx : Nat} {x n : Str} {c : Value} {i : Nat} {body suite : List Stmt} {b₀ : Stmt} {np pos pos' : Pos} {mb ms : MS}
theorem sv_try (i : Nat) (caught : List Str) (hs : X.stack = X.env :: X.outer) (hf : X.env.frame = some X.env.locals) (hN : X.N.Nodup) (hc : Names X x c) (tk : Takes X W) (hcat : ∀ q ∈ caught, ∃ C, X.mg q = some (.ref C) ∧ PySem.W.exmOne X.K (.ref C) c = some true)
    (hb : ∀ (W' : WX) (pn : List (Addr × Obj)) (xe : Value → Shared → Prop), Takes (X.tr pn xe) W' → PassesOwn (model X.prog X.w) X.A X.env xe → ∃ t, SVs (X.tr pn xe) ks W' rsh fx body t mb)
    (hsu : ∀ (a : Addr) (oe : Obj) (cls : Value) (d : Option Addr) (pn : List (Addr × Obj)), Zc cls d oe → (∃ vs, oe.data = .fields vs) → ∃ t, SVs (X.suite a ((a, oe) :: pn)) (ks.set i (.exc X.mg a cls d)) W0 rsh fx (b₀ :: suite) t ms)
    (hi : X.N[i]? = some n := by rfl) (hln : X.env.kindOf n = some .local := by rfl) (hk : ks[i]? = some .leaf := by rfl) (hfx : fx ≤ i := by decide) :
    SV X ks W rsh fx (.Try body [.ExceptHandler (some (.Name x np)) (some n) (b₀ :: suite) pos'] [] [] pos) (fun D σ H => tbU X body (wAs X.K c i (tsU X (b₀ :: suite)) W D) D σ H) (mTry i caught mb ms) := by
  have hbP : ∀ (W' : WX) (pn : List (Addr × Obj)) (xe : Value → Shared → Prop), Takes (X.tr pn xe) W' → PassesOwn (model X.prog X.w) X.A X.env xe → PSs (X.tr pn xe) body (tbU X body W') := fun W' pn xe t1 p1 => ⟨fun pins s σ H D I h => by
    obtain ⟨t, h1, h2⟩ := h pn xe t1 p1
    exact h1.run pins s σ H D I h2⟩
  have hsP : ∀ (a : Addr) (oe : Obj) (cls : Value) (d : Option Addr) (pn : List (Addr × Obj)), Zc cls d oe → (∃ vs, oe.data = .fields vs) → PSs (X.suite a ((a, oe) :: pn)) (b₀ :: suite) (tsU X (b₀ :: suite) a cls d) := fun a oe cls d pn z1 z2 => ⟨fun pins s σ H D I h => by
    obtain ⟨t, h1, h2⟩ := h oe pn z1 z2
    exact h1.run pins s σ H D I h2⟩
  refine ⟨ps_try_as hs hf hN hi hln hc tk hbP hsP, fun ρ σ F H fp D r hok => ?_⟩
  intro pn xe t1 p1
  obtain ⟨t, hsv⟩ := hb _ pn xe t1 p1
  refine ⟨t, hsv.pe, hsv.sd ρ σ F H fp D r ?_⟩
  unfold mTry at hok
  cases em : mb ρ with
  | no => rw [em] at hok; exact (show False from hok).elim
  | ok f ρ1 =>
    rw [em] at hok
    cases f with
    | nx => exact hok
    | rt d => exact hok
  | ex e ρ1 =>
    rw [em] at hok
    dsimp only at hok
    intro cls dx σ' F' H' fp' r' x' q' ex
    cases hct : caught.contains e.c with
    | false => rw [hct, if_neg Bool.false_ne_true] at hok; exact (show False from hok).elim
    | true =>
      rw [hct, if_pos rfl] at hok
      obtain ⟨C, e1, e2⟩ := hcat e.c (List.contains_iff_mem.mp hct)
      obtain ⟨C', g1, g2, g3⟩ := ex
      have eC : C' = C := by
        have := g1.symm.trans e1
        cases this; rfl
      subst eC
      subst g2
      refine ⟨true, e2, fun _ a na => ?_, fun z => by cases z⟩
      intro oe pn2 z1 z2
      obtain ⟨t2, hsv2⟩ := hsu a oe (.ref C') dx pn2 z1 z2
      refine ⟨t2, hsv2.pe, ?_⟩
      -- the state in the suite
      obtain ⟨g, rw1, sb⟩ := r'.resh i (.exc X.mg a (.ref C') dx)
      have hlen := r'.sl.lens
      have hil : i < ks.length := (List.getElem?_eq_some_iff.mp hk).1
      have sv1 := rw1.sl.setV i (some (.ref a))
      obtain ⟨gp, sl2, pm⟩ := RelL.join (s := .exc X.mg a (.ref C') dx) (f := []) (d := .ob e.c e.fs) (OR.exc g1 g3) sv1 (by rw [List.getElem?_set_self hil]) (by rw [List.getElem?_set_self (by rw [← hlen.2, ← hlen.1]; exact hil)])
      rw [List.nil_append] at pm
      have r2 : Rel X.K (ks.set i (.exc X.mg a (.ref C') dx)) F' H' (ρ1.set i (some (.ob e.c e.fs))) (σ'.set i (some (.ref a))) gp := ⟨r'.sub, pm.nodup_iff.mpr rw1.nd, sl2⟩
      have x2 : Ext F H fp F' H' gp := x'.sub fun y m => sb.subset (pm.subset m)
      refine hsv2.sd (ρ1.set i (some (.ob e.c e.fs))) (σ'.set i (some (.ref a))) F' H' gp _ r2 ?_
      cases es : ms (ρ1.set i (some (.ob e.c e.fs))) with
      | no => rw [es] at hok; exact (show False from hok).elim
      | ex y ρ2 => rw [es] at hok; exact (show False from hok).elim
      | ok f ρ2 =>
        rw [es] at hok
        have back : ∀ {F2 H2 : Hp} {σ2 : St} {fp2 : List Addr} (fv : List Addr), Rel X.K (ks.set i (.exc X.mg a (.ref C') dx)) F2 H2 ρ2 σ2 fp2 → (fp2 ++ fv).Nodup → Ext F' H' gp F2 H2 (fp2 ++ fv) → ∃ g2, Rel X.K ks F2 H2 (ρ2.set i none) σ2 g2 ∧ Rel X.K ks F2 H2 (ρ2.set i none) (σ2.set i none) g2 ∧ (g2 ++ fv).Nodup ∧ Ext F H fp F2 H2 (g2 ++ fv) := fun {F2 H2 σ2 fp2} fv r3 nd3 x3 => by
          obtain ⟨g2, r4, sb2⟩ := r3.resh i .leaf
          have ek : (ks.set i (.exc X.mg a (.ref C') dx)).set i .leaf = ks := by
            rw [List.set_set]
            refine List.ext_getElem? fun j => ?_
            by_cases ej : i = j
            · subst ej
              rw [List.getElem?_set_self hil]; exact hk.symm
            · rw [List.getElem?_set_ne ej]
          rw [ek] at r4
          refine ⟨g2, r4, ⟨r4.sub, r4.nd, r4.sl.setV i none⟩, nd3.sublist (List.Sublist.append sb2 (.refl _)), (x2.trans x3).sub fun y m => ?_⟩
          rcases List.mem_append.mp m with m | m
          · exact List.mem_append_left _ (sb2.subset m)
          · exact List.mem_append_right _ m
        cases f with
        | nx =>
          intro σ2 F2 H2 fp2 r3 x3 q3
          obtain ⟨g2, _, r5, nd5, x5⟩ := back [] r3 (by rw [List.append_nil]; exact r3.nd) (by rw [List.append_nil]; exact x3)
          rw [List.append_nil] at x5
          refine hok (σ2.set i none) F2 H2 g2 r5 x5 ?_
          rw [take_set hfx, q3, take_set hfx, q']
        | rt dv =>
          intro v σ2 F2 H2 fp2 fv r3 nd3 x3 q3 o3
          obtain ⟨g2, r5, _, nd5, x5⟩ := back fv r3 nd3 x3
          refine hok v σ2 F2 H2 g2 fv r5 nd5 x5 ?_ o3
          rw [q3, take_set hfx, q']
end

/-! ### a def that may raise, where it is called so that it does not -/
theorem FnG.noex {P : Program} {w : World} {K : PySem.W.Frag} {mg : Str → Option Value} {base : Heap} {k n fx : Nat} {f : Addr} {fd : FuncData} {ps : List Str} {psh : List Sh} {rsh : Sh} {g : List D → R D}
    (G : FnG P w K mg base (L2.CX P w) k f fd ps (spV K mg n psh fx rsh g)) : FnG P w K mg base CX0 k f fd ps (spV K mg n psh fx rsh fun ds => (g ds).noEx) := by
  refine ⟨fun vs H Q E h => ?_, fun A outer s H args us vs Q E hr hgd e0 hb r hsp => ?_⟩
  · obtain ⟨h1, F, fp, ds, r, ok⟩ := h
    refine G.len vs H Q E ⟨h1, F, fp, ds, r, ?_⟩
    dsimp only at ok
    cases e : g ds with
    | no => rw [e] at ok; exact ok
    | ok d ρ => rw [e] at ok; exact ok
    | ex y ρ => rw [e] at ok; exact (show False from ok).elim
  · have hsp' : spV K mg n psh fx rsh g vs H Q (fun _ _ _ => False) := by
      obtain ⟨h1, F, fp, ds, r, ok⟩ := hsp
      refine ⟨h1, F, fp, ds, r, ?_⟩
      dsimp only at ok
      cases e : g ds with
      | no => rw [e] at ok; exact ok
      | ok d ρ => rw [e] at ok; exact ok
      | ex y ρ => rw [e] at ok; exact (show False from ok).elim
    refine codeAny_mono (G.run A outer s H args us vs Q (fun _ _ _ => False) hr hgd e0 hb r hsp') fun rr s' hq => ?_
    cases rr with
    | error e =>
      obtain ⟨_, _, _, _, _, _, _, _, _, _, _, _, z⟩ := hq
      exact z.elim
    | ok fl =>
      cases fl with
      | ret u => exact hq
      | next => exact hq
      | brk => exact hq
      | cont => exact hq
theorem Clp.noex {P : Program} {w : World} {K : PySem.W.Frag} {mg : Str → Option Value} {base : Heap} {k n fx : Nat} {x : Str} {psh : List Sh} {rsh : Sh} {g : List D → R D} (c : Clp P w K mg base (L2.CX P w) k x n psh fx rsh g) :
    Clp P w K mg base CX0 k x n psh fx rsh fun ds => (g ds).noEx := by
  obtain ⟨f, fd, ps, G, hm, hk, hb⟩ := c.ex
  exact ⟨f, fd, ps, G.noex, hm, hk, hb⟩
/-- .. called where it does not let anything out of it -/
theorem noEx_ok {α : Type} {r : R α} {a : α} {ρ : DEnv} (h : r.noEx = .ok a ρ) : r = .ok a ρ := by
  cases r with
  | ok b ρ' => exact h
  | ex e ρ' => cases h
  | no => cases h
end VL
/-! V37: defs with a try, defs that raise; facts of classes in tables. -/
namespace VL
open PySem PySem.Spec L2
def clsBody : Stmt → List Stmt
  | .ClassDef _ _ _ b _ _ _ _ _ _ _ => b
  | _ => []
def clsStm (s : Stmt) (i : Nat) : Stmt := (clsBody s).getD i (.Pass ⟨0, 0, 0, 0⟩)
section
variable {P : Program} {w : World} {K : PySem.W.Frag} {mg : Str → Option Value} {base : Heap}
/-- as Fun.okG, the frame's place among the callers' told -/
theorem Fun.okGT {x qual : Str} {st : Stmt} {f : Addr} {fd : FuncData} {N ps : List Str} {k n : Nat} {psh lsh : List Sh} {fx : Nat} {rsh : Sh} {m : MS} (G : L2.Fun K x qual st f fd) (S : FnScope N ps (defScope st)) (hp : ps.length = n) (hn : psh.length = n) (hN : N.length = n + lsh.length) (hfx : fx ≤ n) (hnx : rsh = .leaf ∨ ∀ ρ ρ', m ρ ≠ .ok .nx ρ')
    (body : ∀ X : Cx, X.prog = P → X.w = w → X.K = K → X.mg = mg → X.base = base → X.N = N → X.calm = true → X.xe = (fun _ _ => False) → X.fn = (fun _ => true) → (∃ L f cd, X.env = PyProof.Rows.envOfC qual (defScope st) L f cd) → Room k X.A → X.A.guards = some [] → X.stack = X.env :: X.outer →
      ∃ t, SVs X (psh ++ lsh) W0 rsh fx (defBody st) t m) : FnG P w K mg base CX0 (k + 1) f fd ps (spV K mg n psh fx rsh fun ds => (runF (n + lsh.length) fx m ds).noEx) := by
  obtain ⟨oc, od, kV, doc, pm, an, cdv, ct, osl, rfl, lk, hcd⟩ := G.ex
  refine fng_of lk hcd S (fun vs H Q E h => h.1.trans hp.symm) fun A outer s H vs Q E hr hgd hsp => ?_
  obtain ⟨t, ht⟩ := body (cxOf CX0 P w K mg base N qual (defScope st) f cdv A outer s H E).nox rfl rfl rfl rfl rfl rfl rfl rfl rfl ⟨_, _, _, rfl⟩ hr hgd rfl
  refine ⟨t, ht.pe.nox, body_ok (E := fun _ _ _ => False) ht hn hN hfx hnx (fun _ _ _ _ z => z) ?_⟩
  obtain ⟨h1, F, fp, ds, r, ok⟩ := hsp
  refine ⟨h1, F, fp, ds, r, ?_⟩
  dsimp only at ok
  cases e : runF (n + lsh.length) fx m ds with
  | no => rw [e] at ok; exact ok
  | ok d ρ' => rw [e] at ok; exact ok
  | ex y ρ' => rw [e] at ok; exact (show False from ok).elim
/-- as Fun.okXG -/
theorem Fun.okXGT {x qual : Str} {st : Stmt} {f : Addr} {fd : FuncData} {N ps : List Str} {k n : Nat} {psh lsh : List Sh} {fx : Nat} {rsh : Sh} {m : MS} (G : L2.Fun K x qual st f fd) (S : FnScope N ps (defScope st)) (hp : ps.length = n) (hn : psh.length = n) (hN : N.length = n + lsh.length) (hfx : fx ≤ n) (hnx : rsh = .leaf ∨ ∀ ρ ρ', m ρ ≠ .ok .nx ρ')
    (body : ∀ (X : Cx) (W : WX), X.prog = P → X.w = w → X.K = K → X.mg = mg → X.base = base → X.N = N → X.calm = true → X.fn = (fun _ => true) → (∃ L f cd, X.env = PyProof.Rows.envOfC qual (defScope st) L f cd) → Room k X.A → X.A.guards = some [] → X.stack = X.env :: X.outer → Takes X W → PassesOwn (model X.prog X.w) X.A X.env X.xe →
      ∃ t, SVs X (psh ++ lsh) W rsh fx (defBody st) t m) : FnG P w K mg base (L2.CX P w) (k + 1) f fd ps (spV K mg n psh fx rsh (runF (n + lsh.length) fx m)) := by
  obtain ⟨oc, od, kV, doc, pm, an, cdv, ct, osl, rfl, lk, hcd⟩ := G.ex
  refine fng_of lk hcd S (fun vs H Q E h => h.1.trans hp.symm) fun A outer s H vs Q E hr hgd hsp => ?_
  obtain ⟨t, ht⟩ := body (cxOf (L2.CX P w) P w K mg base N qual (defScope st) f cdv A outer s H E) (fun cls d _ H' => E cls d H') rfl rfl rfl rfl rfl rfl rfl rfl ⟨_, _, _, rfl⟩ hr hgd rfl (takes_of rfl rfl rfl rfl) (passes_of rfl)
  exact ⟨t, ht.pe, body_ok ht hn hN hfx hnx (fun _ _ _ _ z => z) hsp⟩
end
theorem ist_nil {K : PySem.W.Frag} {mg : Str → Option Value} {ans : Addr → Bool → Prop} : IsT K mg ans [] := fun _ h => by cases h
theorem ist_cons {K : PySem.W.Frag} {mg : Str → Option Value} {ans : Addr → Bool → Prop} {c : Str} {C : Addr} {b : Bool} {l : List (Str × Bool)} (g : mg c = some (.ref C)) (E : ExcC K C) (a : ans C b) (h : IsT K mg ans l) : IsT K mg ans ((c, b) :: l) := fun q m => by
  rcases List.mem_cons.mp m with rfl | m
  · exact ⟨C, g, E, a⟩
  · exact h q m
theorem kany_nil {K : PySem.W.Frag} {t : Value} : PySem.W.kitAny K t [] = some false := rfl
theorem kany_f {K : PySem.W.Frag} {t c : Value} {l : List Value} {b : Bool} (h : PySem.W.kitOne K t c = some false) (k : PySem.W.kitAny K t l = some b) : PySem.W.kitAny K t (c :: l) = some b := by
  unfold PySem.W.kitAny
  rw [h]; exact k
/-- the classes that a clause takes -/
def CatT (K : PySem.W.Frag) (mg : Str → Option Value) (c : Value) (l : List Str) : Prop := ∀ q ∈ l, ∃ C, mg q = some (.ref C) ∧ PySem.W.exmOne K (.ref C) c = some true
theorem cat_nil {K : PySem.W.Frag} {mg : Str → Option Value} {c : Value} : CatT K mg c [] := fun _ h => by cases h
theorem cat_cons {K : PySem.W.Frag} {mg : Str → Option Value} {c : Value} {q : Str} {C : Addr} {l : List Str} (g : mg q = some (.ref C)) (e : PySem.W.exmOne K (.ref C) c = some true) (h : CatT K mg c l) : CatT K mg c (q :: l) := fun y m => by
  rcases List.mem_cons.mp m with rfl | m
  · exact ⟨C, g, e⟩
  · exact h y m
theorem rel_ref {C : Addr} : ∀ u, RelV (.ref C) u → u = .ref C := fun _ h => h
theorem rel_ty {n : String} : ∀ u, RelV (.ty n) u → u = .type n := fun _ h => h
theorem rels_nil : ∀ us, Vals [] us → us = [] := fun us h => by cases h; rfl
theorem rels_cons {v : V} {u : Value} {vs : List V} {its : List Value} (h : ∀ u', RelV v u' → u' = u) (k : ∀ us, Vals vs us → us = its) : ∀ us, Vals (v :: vs) us → us = u :: its := fun us r => by
  cases r with
  | cons a b => rw [h _ a, k _ b]
/-- the facts of a class with fields, from what the written part says -/
theorem exK_of {P : Program} {w : World} {K : PySem.W.Frag} {mg : Str → Option Value} {base : Heap} {c : Str} {fs : List Str} {C fI : Addr} {fd : FuncData} {ps : List Str} (gC : mg c = some (.ref C)) (ox : OexC K C) (iC : PySem.W.findIn K (.ref C) "__init__" = some (some (.ref fI))) (tI : PySem.W.typeIn K (.ref fI) = some (.type "function"))
    (F : FnOk P w K mg base CX0 1 fI fd ps (spI K C fs)) (b : Binds K fd ps []) : ExK P w K mg base c fs C := ⟨gC, ox, fI, fd, ps, iC, tI, F, b⟩
end VL
/-! V38: sorted lists of pairs of texts. -/
namespace VL
open PySem PySem.Spec L2
abbrev SP := Str × Str
/-! ### the pair a value bears, read off the heap -/
def prOf : List Value → SP
  | [.str x _, .str y _] => (x, y)
  | _ => (⟨#[]⟩, ⟨#[]⟩)
def prAt (h : Heap) : Value → SP
  | .ref a => (match h.get? a with
    | some o => (match o.data with
      | .seq xs _ => prOf xs.toList
      | _ => (⟨#[]⟩, ⟨#[]⟩))
    | none => (⟨#[]⟩, ⟨#[]⟩))
  | _ => (⟨#[]⟩, ⟨#[]⟩)
def PrIn (h : Heap) (v : Value) (p : SP) : Prop := ∃ a t u, v = .ref a ∧ PyProof.Rows.IsTup h a #[.str p.1 t, .str p.2 u]
theorem PrIn.tx {h : Heap} {v : Value} {p : SP} (x : PrIn h v p) : prAt h v = p := by
  obtain ⟨a, t, u, rfl, o, ho, hc, n, hd⟩ := x
  show (match h.get? a with | some o => _ | none => _) = p
  rw [ho]
  show (match o.data with | .seq xs _ => _ | _ => _) = p
  rw [hd]
  rfl
theorem PrIn.keeps {h h' : Heap} {v : Value} {p : SP} (x : PrIn h v p) (k : ∀ b o, h.get? b = some o → o.cls = .type "tuple" → h'.get? b = some o) : PrIn h' v p := by
  obtain ⟨a, t, u, e, o, ho, hc, r⟩ := x
  exact ⟨a, t, u, e, o, k _ _ ho hc, hc, r⟩
section
variable {prog : Program} {w : World} {A : Around} {E : Value → Shared → Prop} {s : Shared}
end

/-! ### the rule -/
/-! ### on data -/
theorem Reps.mem {K : PySem.W.Frag} {F : Hp} : ∀ {vs : List V} {ds : List D}, Reps K F vs ds → ∀ v ∈ vs, ∃ d ∈ ds, Rep K F v d
  | _, _, .nil, v, h => by cases h
  | _, _, .cons r t, v, h => by
    rcases List.mem_cons.mp h with rfl | h
    · exact ⟨_, List.mem_cons_self, r⟩
    · obtain ⟨d, m, q⟩ := Reps.mem t v h
      exact ⟨d, List.mem_cons_of_mem _ m, q⟩
section
variable {X : Cx} (K : PySem.W.Frag) (hK : X.K = K)
include hK
end
end VL
/-! V39: == of dicts, of dicts of dicts (their last values True). -/
namespace VL
open PySem PySem.Spec L2
section
variable {P : Program} {w : World}
end
/-! ### on data -/
end VL
/-! V40: sorted of a list or a tuple of texts. -/
namespace VL
open PySem PySem.Spec L2
section
variable {prog : Program} {w : World} {A : Around} {E : Value → Shared → Prop} {s : Shared}
end
/-! ### the rule -/
section
variable {X : Cx} (K : PySem.W.Frag) (hK : X.K = K)
include hK
end
end VL
/-! V41: t[::-1] of a tuple. -/
namespace VL
open PySem PySem.Spec L2
section
variable {prog : Program} {w : World} {A : Around} {E : Value → Shared → Prop} {s : Shared}
end
section
variable {X : Cx} {a c : Expr} {ta tc : TE} {pos p2 : Pos}
end
end VL
set_option maxHeartbeats 4000000
/-! V42: dict(zip(a, b)), each of a and b a list or a tuple (the flag tells: true a tuple). -/
namespace VL
open PySem PySem.Spec L2
def IsIt : Bool → Heap → Addr → Addr → Nat → Prop
  | true, h, it, l, i => h.IsTupleIter it l i
  | false, h, it, l, i => h.IsListIter it l i
def IsSq : Bool → Heap → Addr → Array Value → Prop
  | true, h, l, xs => h.IsTuple l xs
  | false, h, l, xs => h.IsList l xs
theorem IsIt.up {b : Bool} {h h' : Heap} {it l : Addr} {i : Nat} (x : IsIt b h it l i) (k : ∀ o, h.get? it = some o → h'.get? it = some o) : IsIt b h' it l i := by
  cases b
  · exact Heap.IsListIter.at x k
  · exact Heap.IsTupleIter.at x k
theorem IsSq.up {b : Bool} {h h' : Heap} {l : Addr} {xs : Array Value} (x : IsSq b h l xs) (k : ∀ o, h.get? l = some o → h'.get? l = some o) : IsSq b h' l xs := by
  cases b
  · exact Heap.IsList.at x k
  · exact Heap.IsTuple.at x k
theorem IsIt.ob {b : Bool} {h : Heap} {it l : Addr} {i : Nat} (x : IsIt b h it l i) : ∃ o, h.get? it = some o := by
  cases b
  · obtain ⟨o, e, _⟩ := x; exact ⟨o, e⟩
  · obtain ⟨o, e, _⟩ := x; exact ⟨o, e⟩
theorem IsSq.ob {b : Bool} {h : Heap} {l : Addr} {xs : Array Value} (x : IsSq b h l xs) : ∃ o, h.get? l = some o := by
  cases b
  · obtain ⟨o, e, _⟩ := x; exact ⟨o, e⟩
  · obtain ⟨o, e, _⟩ := x; exact ⟨o, e⟩
section
variable {prog : Program} {w : World} {A : Around} {E : Value → Shared → Prop} {s : Shared}
variable {b1 b2 : Bool} {z TI TO i1 i2 l1 l2 : Addr} {k1 k2 : Nat} {xs ys : Array Value} {x y a b : Value}
variable {T : Addr} {f : Bool} {oT : Obj}
end
end VL
set_option maxHeartbeats 4000000
/-! V43: dict(zip(a, b)), the walk and the rule. -/
namespace VL
open PySem PySem.Spec L2
section
variable {prog : Program} {w : World} {A : Around} {E : Value → Shared → Prop} {s : Shared}
variable {b1 b2 : Bool} {z TI TO i1 i2 l1 l2 : Addr} {k1 k2 : Nat} {xs ys : Array Value} {x y a b : Value}
variable {T : Addr} {f : Bool} {oT : Obj}
end
section
variable {prog : Program} {w : World}
/-! ### zip made -/
def itN (b : Bool) : String := if b = true then "tuple_iterator" else "list_iterator"
def itO (b : Bool) (l : Addr) : Obj := { cls := .type (itN b), data := .fields #[.ref l, .int 0 0] }
theorem itO_is {b : Bool} {h : Heap} {it l : Addr} (e : h.get? it = some (itO b l)) : IsIt b h it l 0 := by
  cases b
  · exact ⟨_, e, rfl, rfl⟩
  · exact ⟨_, e, rfl, rfl⟩
theorem pyIter_sq {A : Around} {E : Value → Shared → Prop} {s : Shared} {b : Bool} {l : Addr} {xs : Array Value} {Q : Value → Shared → Prop} (hl : IsSq b s.heap l xs) (h : Q (.ref s.heap.objs.size) { s with heap := s.heap.push (itO b l) }) : wpAny (model prog w) A (pyIter (.ref l)) Q E s := by
  cases b
  · exact wpAny_pyIter_list (show s.heap.IsList l xs from hl) h
  · exact wpAny_pyIter_tuple (show s.heap.IsTuple l xs from hl) h
end
/-! ### the rule -/
section
variable {X : Cx}
def SqB (K : PySem.W.Frag) (H : Hp) (b : Bool) (a : Addr) (xs : List V) : Prop := if b = true then SqT K H a xs else SqL K H a xs
theorem Inv.sqB {pins : List (Addr × Obj)} {σ : L2.St} {H : Hp} {s : Shared} {b : Bool} {a : Addr} {xs : List V} (I : Inv X pins σ H s) (h : SqB X.K H b a xs) : ∃ its : List Value, Vals xs its ∧ IsSq b s.heap a its.toArray ∧ xs.length ≤ sizeLine := by
  cases b
  · obtain ⟨its, r, p, z⟩ := I.list (show SqL X.K H a xs from h)
    exact ⟨its, r, p.isList, z⟩
  · obtain ⟨its, r, p, z⟩ := I.tuple (show SqT X.K H a xs from h)
    exact ⟨its, r, p, z⟩
theorem vals_at {xs : List V} {us : List Value} (r : Vals xs us) {i : Nat} {u : Value} (h : us[i]? = some u) : ∃ x, xs[i]? = some x ∧ RelV x u := by
  induction r generalizing i with
  | nil => simp at h
  | cons a t ih =>
    cases i with
    | zero => simp at h; subst h; exact ⟨_, rfl, a⟩
    | succ i => exact ih (by simpa using h)
variable {ks0 : List Sh} {W : WX} {e1 e2 : Expr} {t : TA} {p p2 q pos : Pos}
end
end VL
set_option maxHeartbeats 4000000
/-! V44: len(set(x)), x a tuple or a list of ints and texts. -/
namespace VL
open PySem PySem.Spec L2
instance memKD (k : Key) (l : List Key) : Decidable (k ∈ l) := @List.instDecidableMemOfLawfulBEq Key instBEqOfDecidableEq _ k l
theorem snoc_ind {α : Type} {C : List α → Prop} (h0 : C []) (h1 : ∀ l a, C l → C (l ++ [a])) (l : List α) : C l := by
  have : ∀ m : List α, C m.reverse := fun m => by
    induction m with
    | nil => exact h0
    | cons a m ih => rw [List.reverse_cons]; exact h1 _ _ ih
  have := this l.reverse
  rwa [List.reverse_reverse] at this
/-- the keys of a list, each once -/
def onceK (ks : List Key) : List Key := ks.foldl (fun acc k => if k ∈ acc then acc else acc ++ [k]) []
theorem onceK_snoc (ks : List Key) (k : Key) : onceK (ks ++ [k]) = if k ∈ onceK ks then onceK ks else onceK ks ++ [k] := by
  unfold onceK; rw [List.foldl_append]; rfl
theorem mem_onceK : ∀ {ks : List Key} {k : Key}, k ∈ onceK ks ↔ k ∈ ks := by
  intro ks
  induction ks using snoc_ind with
  | h0 => intro k; exact Iff.rfl
  | h1 ks a ih =>
    intro k
    rw [onceK_snoc]
    split
    · rename_i h
      rw [ih, List.mem_append, List.mem_singleton]
      exact ⟨.inl, fun z => z.elim id fun e => e ▸ ih.mp h⟩
    · rw [List.mem_append, List.mem_append, ih]
theorem onceK_len (ks : List Key) : (onceK ks).length ≤ ks.length := by
  induction ks using snoc_ind with
  | h0 => exact Nat.le_refl _
  | h1 ks a ih =>
    rw [onceK_snoc]
    split
    · rw [List.length_append]; omega
    · rw [List.length_append, List.length_append]; simpa using ih
theorem onceK_nodup {ks : List Key} (h : ks.Nodup) : onceK ks = ks := by
  induction ks using snoc_ind with
  | h0 => rfl
  | h1 ks a ih =>
    have hn := List.nodup_append.mp h
    rw [onceK_snoc, ih hn.1, if_neg fun m => hn.2.2 a m a (List.mem_singleton.mpr rfl) rfl]
theorem onceK_lt {ks : List Key} (h : ¬ ks.Nodup) : (onceK ks).length < ks.length := by
  induction ks using snoc_ind with
  | h0 => exact absurd List.nodup_nil h
  | h1 ks a ih =>
    rw [onceK_snoc, List.length_append]
    by_cases hk : ks.Nodup
    · have m : a ∈ ks := Decidable.byContradiction fun m => h (List.nodup_append.mpr ⟨hk, by simp, fun x hx y hy e => by
        rw [List.mem_singleton.mp hy] at e; exact m (e ▸ hx)⟩)
      rw [if_pos (mem_onceK.mpr m)]
      have := onceK_len ks
      simp; omega
    · have := ih hk
      split
      · simp; omega
      · rw [List.length_append]; simp; omega
theorem setOf_cg {P : Program} {w : World} {h : Heap} {a : Addr} {S S' : Key → Bool} {n n' : Nat} (hS : h.SetOf (mixKind P w) a S n) (e : ∀ k, S k = S' k) (en : n = n') : h.SetOf (mixKind P w) a S' n' := by
  obtain rfl : S = S' := funext e
  subst en; exact hS
section
variable {P : Program} {w : World} {A : Around} {E : Value → Shared → Prop} {s : Shared}
theorem set_upK {I : Addr} {fp wr : List Addr} {G : Array GenState → Array GenState → Prop} {n : Nat} {Pv : Nat → Value → Prop} {St : Nat → Shared → Prop} {R : Result → Shared → Prop}
    (W : WalksS P w A.in1 I fp wr G n Pv St) (S : Addr) (hSf : S ∉ fp) (ks : List Key) (hn : n = ks.length) (hb : ks.length + 1 < scanBound) (hval : ∀ i v, Pv i v → ∃ k, ks[i]? = some k ∧ RelV (kV k) v) :
    ∀ (m i : Nat) (s : Shared), n - i = m → i ≤ n → St i s → s.heap.SetOf (mixKind P w) S (fun j => decide (j ∈ ks.take i)) (onceK (ks.take i)).length →
      (∀ s', Moved (S :: wr) G s s' → s'.heap.SetOf (mixKind P w) S (fun j => decide (j ∈ ks)) (onceK ks).length → R (.ok (.ret .none)) s') →
      codeAny (model P w) A (.builtin "set.update.loop" ⟨[.ref S, .ref I], []⟩) R s := by
  have hSw : S ∉ wr := fun h => hSf (W.sub _ h)
  have hsub : ∀ b ∈ wr, b ∈ S :: wr := fun b hb => List.mem_cons_of_mem _ hb
  intro m
  induction m with
  | zero =>
    intro i s hk' hi hst hS hR
    have hin : i = n := by omega
    subst hin
    refine codeAny_builtin PyProof.Rows.F.entry_set_update_loop ?_
    rw [Around.under_plainId PyProof.Rows.F.plain_set_update_loop _]
    show wpAny _ A.in1 (pyNext (.ref I) >>= _) _ _ s
    refine wpAny_bind (W.done s _ _ hst fun s' hm => ?_)
    show wpAny _ A.in1 (ret Value.none) _ _ s'
    have e : ks.take i = ks := List.take_of_length_le (by omega)
    rw [e] at hS
    exact wpAny_pure (hR s' (hm.mono hsub) (setOf_at hS fun o e => hm.heap S o hSw e))
  | succ m ih =>
    intro i s hk' hi hst hS hR
    have hlt : i < n := by omega
    refine codeAny_builtin PyProof.Rows.F.entry_set_update_loop ?_
    rw [Around.under_plainId PyProof.Rows.F.plain_set_update_loop _]
    show wpAny _ A.in1 (pyNext (.ref I) >>= _) _ _ s
    refine wpAny_bind (W.item i s _ _ hlt hst fun v s' hP hst' hm => ?_)
    obtain ⟨k, hz, rk⟩ := hval i v hP
    have hS' := setOf_at (h' := s'.heap) hS fun o e => hm.heap S o hSw e
    show wpAny _ A.in1 (holding [v] (setAdd S v) >>= _) _ _ s'
    refine wpAny_bind (wpAny_holding ?_)
    unfold setAdd
    refine wpAny_holding ?_
    have lk := onceK_len (ks.take i)
    rw [List.length_take] at lk
    refine wpAny_bind ((mixKind P w).pyHash (k := k) (kV_is rk) ?_)
    refine wpAny_setAddHashed_of (knd := mixKind P w) (s := { s' with toks := s'.toks + 1 }) (kV_is rk) (key_scan rk) hS' (by omega) fun h' hsb hS2 => ?_
    have et : ks.take (i + 1) = ks.take i ++ [k] := by rw [List.take_add_one, hz]; rfl
    have hS3 : h'.SetOf (mixKind P w) S (fun j => decide (j ∈ ks.take (i + 1))) (onceK (ks.take (i + 1))).length := by
      refine setOf_cg hS2 (fun j => ?_) ?_
      · show (decide (j ∈ ks.take i) || decide (j = k)) = decide (j ∈ ks.take (i + 1))
        rw [et]
        by_cases h1 : j ∈ ks.take i
        · rw [decide_eq_true h1, decide_eq_true (List.mem_append_left _ h1), Bool.true_or]
        · by_cases h2 : j = k
          · rw [decide_eq_true h2, decide_eq_true (List.mem_append_right _ (h2 ▸ List.mem_singleton.mpr rfl)), Bool.or_true]
          · rw [decide_eq_false h1, decide_eq_false h2, decide_eq_false fun m => (List.mem_append.mp m).elim h1 fun m => h2 (List.mem_singleton.mp m)]; rfl
      · rw [et, onceK_snoc]
        by_cases hm : k ∈ ks.take i
        · rw [if_pos (mem_onceK.mpr hm), if_pos (decide_eq_true hm)]
        · rw [if_neg (fun z => hm (mem_onceK.mp z)), if_neg (by rw [decide_eq_true_iff]; exact hm), List.length_append]; rfl
    refine wpAny_pure ⟨plainId_quiet PyProof.Rows.F.plain_set_update_loop _, ih (i + 1) _ (by omega) hlt (W.frame _ s' _ _ hst' (Nat.le_succ _) fun b hb o e => ?_) hS3 fun s'' hm'' hS'' => ?_⟩
    · rw [hsb.2 b (fun h : b = S => hSf (by rw [← h]; exact hb))]; exact e
    · refine hR s'' (Moved.trans W.gtrans ((hm.mono hsub).then_heap (Nat.le_succ _) fun b o hb e => ?_) hm'') hS''
      rw [hsb.2 b (fun h : b = S => hb (by rw [h]; exact List.mem_cons_self))]; exact e
theorem walks_sq {b : Bool} (hh : A.handled = none) (I l : Addr) (hne : l ≠ I) (items : Array Value) : PySem.Walks P w A I [I, l] [I] items.size (fun i v => items[i]? = some v) (fun i h => IsIt b h I l i ∧ IsSq b h l items) := by
  cases b
  · exact PySem.Walks.list hh I l hne items
  · exact PySem.Walks.tuple hh I l hne items

open PyProof.Rows in
theorem call_setK {b : Bool} {l : Addr} {items : Array Value} {ks : List Key} {Q : Value → Shared → Prop} (hh : A.handled = none) (hl : IsSq b s.heap l items) (hi : Vals (ks.map kV) items.toList) (hb : ks.length + 1 < scanBound)
    (h : ∀ (h' : Heap) (tk : Nat), h'.SetOf (mixKind P w) s.heap.objs.size (fun j => decide (j ∈ ks)) (onceK ks).length → (∀ b o, s.heap.get? b = some o → h'.get? b = some o) → Q (.ref s.heap.objs.size) { s with heap := h', toks := tk }) :
    wpAny (model P w) A (call (.type "set") [.ref l]) Q E s := by
  have hisz : items.size = ks.length := by
    have q := hi.length
    rw [List.length_map, Array.length_toList] at q
    exact q.symm
  obtain ⟨c, tl, hmro⟩ := PySem.F.called_set.mro
  have hmade := PySem.F.called_set.made
  have hsub := PySem.F.called_set.sub
  refine wpAny_call (codeAny_of_tree ?_)
  show wpAny _ _ (callAny (.type "set") _) _ _ _
  refine wpAny_pure ⟨Code.quiet_builtin _ (by decide +kernel), codeAny_builtin PySem.F.entry_type_call ?_⟩
  rw [Around.under_plain (weight_type_call_type "set" [.ref l] []) rfl]
  have h1 := PySem.F.called_set.notType
  have h2 := PySem.F.called_set.canCreate
  have hct := PySem.F.typeCall_set_1 (.ref l)
  repeat (any_goals (first | assumption | wp_step))
  refine codeAny_mono (code_set_new_1 (.ref l) (E := E) (Q₁ := fun obj s₁ => ∃ led : Bool, obj = .ref s.heap.objs.size ∧ s₁ = { s with heap := s.heap.push { cls := .type "set", dict := none, data := .set #[] 0 (.fresh 0 0 led) } }) fun led => ⟨led, rfl, rfl⟩) fun r s₁ hr => ?_
  cases r with
  | error e => exact hr
  | ok fl =>
    cases fl with
    | ret obj =>
      obtain ⟨led, rfl, rfl⟩ := hr
      obtain ⟨S0, eS0⟩ : ∃ S0 : Obj, S0 = { cls := .type "set", dict := none, data := .set #[] 0 (.fresh 0 0 led) } := ⟨_, rfl⟩
      rw [← eS0]
      have hS : (s.heap.push S0).get? s.heap.objs.size = some S0 := Heap.get?_push_size _ (by rw [eS0]; rfl)
      have hT : Shared.TypeIs { s with heap := s.heap.push S0 } (.ref s.heap.objs.size) "set" := ⟨_, hS, by rw [eS0]⟩
      have hli := PySem.F.called_set.init.lookup
      have hbi := PySem.F.called_set.init.bind (.ref s.heap.objs.size)
      repeat (any_goals (first | assumption | wp_step))
      refine codeAny_mono (codeAny_call_builtin (R := wants (fun r s₂ => r = .none ∧ ∃ h' tk, s₂ = { s with heap := h', toks := tk } ∧ h'.SetOf (mixKind P w) s.heap.objs.size (fun j => decide (j ∈ ks)) (onceK ks).length ∧ (∀ b o, s.heap.get? b = some o → h'.get? b = some o)) E) PySem.F.called_set.init.plain PySem.F.entry_set_init (check_set_init_1 hT ?_)) fun r₂ s₂ hr₂ => ?_
      · obtain ⟨ol, hol⟩ := hl.ob
        have hlS : l < s.heap.objs.size := Heap.lt_size hol
        have hl1 : IsSq b (s.heap.push S0) l items := hl.up fun o e => Heap.get?_push_of_some _ e
        have hh3 : A.in1.in1.in1.handled = none := by simp [hh]
        have hz : (s.heap.push S0).objs.size = s.heap.objs.size + 1 := Heap.size_push ..
        have hneI : l ≠ (s.heap.push S0).objs.size := by rw [hz]; exact Nat.ne_of_lt (Nat.lt_succ_of_lt hlS)
        have hSf : s.heap.objs.size ∉ [(s.heap.push S0).objs.size, l] := by
          rw [hz]
          intro m
          rcases List.mem_cons.mp m with m | m
          · exact absurd m (Nat.ne_of_lt (Nat.lt_succ_self _))
          · exact absurd (List.mem_singleton.mp m) (Nat.ne_of_gt hlS)
        have hval : ∀ (i : Nat) (v : Value), items[i]? = some v → ∃ k, ks[i]? = some k ∧ RelV (kV k) v := fun i v hv => by
          obtain ⟨x, hx, rx⟩ := vals_at hi (by rw [Array.getElem?_toList]; exact hv)
          rw [List.getElem?_map] at hx
          obtain ⟨k, hk', rfl⟩ := Option.map_eq_some_iff.mp hx
          exact ⟨k, hk', rx⟩
        have fin : ∀ G : Heap, G = (s.heap.push S0).push (itO b l) → codeAny (model P w) A.in1.in1 (.builtin "set.update.loop" ⟨[.ref s.heap.objs.size, .ref (s.heap.push S0).objs.size], []⟩) (fun r s' => r = .ok (.ret .none) ∧ ∃ h' tk, s' = { s with heap := h', toks := tk } ∧ h'.SetOf (mixKind P w) s.heap.objs.size (fun j => decide (j ∈ ks)) (onceK ks).length ∧ (∀ b o, s.heap.get? b = some o → h'.get? b = some o)) { s with heap := G } := by
          rintro G rfl
          have hit : IsIt b ((s.heap.push S0).push (itO b l)) (s.heap.push S0).objs.size l 0 := itO_is (Heap.get?_push_size _ (by unfold itO; rfl))
          refine set_upK ((walks_sq (P := P) (w := w) (A := A.in1.in1.in1) (by simp [hh]) (s.heap.push S0).objs.size l hneI items).toS) s.heap.objs.size hSf ks hisz hb hval (items.size - 0) 0 _ (by omega) (Nat.zero_le _) ⟨hit, hl1.up fun o e => Heap.get?_push_of_some _ e⟩ ?_ fun s' hm hS' => ?_
          · have hget : ((s.heap.push S0).push (itO b l)).get? s.heap.objs.size = some S0 := Heap.get?_push_of_some _ hS
            rw [eS0] at hget ⊢
            exact ⟨_, #[], 0, _, hget, ⟨rfl, rfl, rfl⟩, rfl, (fun e he => by simp at he), (fun k => ⟨fun z => absurd (of_decide_eq_true z) (show ¬ k ∈ ([] : List Key) from List.not_mem_nil), fun ⟨e, he, _⟩ => by simp at he⟩), (by decide), (by rfl), rfl⟩
          · obtain ⟨h', g', d', tk', os'⟩ := s'
            have eg : g' = s.gens := hm.gens
            have ed : d' = s.drawn := hm.drawn
            have eo : os' = s.os := hm.os
            subst eg; subst ed; subst eo
            refine ⟨rfl, h', tk', rfl, hS', fun c o e => hm.heap c o (fun m => ?_) (Heap.get?_push_of_some _ (Heap.get?_push_of_some _ e))⟩
            have lc := Heap.lt_size e
            rcases List.mem_cons.mp m with m | m
            · rw [m] at lc; exact Nat.lt_irrefl _ lc
            · rw [List.mem_singleton.mp m, hz] at lc; exact Nat.not_lt_of_le (Nat.le_succ _) lc
        have hsls := PySem.F.sub_list_set
        have hslf := PySem.F.sub_list_frozenset
        have hsls2 := PySem.F.sub_tuple_set
        have hslf2 := PySem.F.sub_tuple_frozenset
        have hne : (Value.type "list" == Value.type "dict") = false := by decide
        have hne2 : (Value.type "tuple" == Value.type "dict") = false := by decide
        subst eS0
        unfold Builtin.«set.__init__» noKeywords Builtin.Frozenset.updateFrom
        generalize hPI : pyIter = PI
        cases b
        · obtain ⟨ol, hol', hcl, nl, hdl⟩ := (show (s.heap.push _).IsList l items from hl1)
          obtain ⟨ocls, odict, odata, oslots⟩ := ol
          simp only at hcl hdl
          subst hcl; subst hdl
          wp_walk
          subst hPI
          refine pyIter_sq (s := { s with heap := s.heap.push _ }) (b := false) hl1 ?_
          refine wpAny_bind (wpAny_runValue ?_)
          refine codeAny_mono (fin _ rfl) fun r s' hr => ?_
          obtain ⟨rfl, h', tk, rfl, h3, h4⟩ := hr
          exact wpAny_pure (wpAny_pure ⟨rfl, h', tk, rfl, h3, h4⟩)
        · obtain ⟨ol, hol', hcl, nl, hdl⟩ := (show (s.heap.push _).IsTuple l items from hl1)
          obtain ⟨ocls, odict, odata, oslots⟩ := ol
          simp only at hcl hdl
          subst hcl; subst hdl
          wp_walk
          subst hPI
          refine pyIter_sq (s := { s with heap := s.heap.push _ }) (b := true) hl1 ?_
          refine wpAny_bind (wpAny_runValue ?_)
          refine codeAny_mono (fin _ rfl) fun r s' hr => ?_
          obtain ⟨rfl, h', tk, rfl, h3, h4⟩ := hr
          exact wpAny_pure (wpAny_pure ⟨rfl, h', tk, rfl, h3, h4⟩)
      · cases r₂ with
        | error e => exact hr₂
        | ok fl₂ =>
          cases fl₂ with
          | ret r =>
            obtain ⟨rfl, h', tk, rfl, hS', hk'⟩ := hr₂
            repeat (any_goals (first | assumption | wp_step))
            exact h _ _ hS' hk'
          | _ => exact hr₂.elim
    | _ => exact hr.elim
end
end VL
/-! V45: len(set(x)): the rule. -/
namespace VL
open PySem PySem.Spec L2
section
variable {X : Cx}
def rLSet (K : PySem.W.Frag) : List V → Hp → VK → Prop := fun vs H Q => ∃ (a : Addr) (b : Bool) (ks : List Key), vs = [.ref a] ∧ SqB K H b a (ks.map kV) ∧ ks.length ≤ 4000 ∧ Q (.int ((onceK ks).length : Nat)) H
variable {ks0 : List Sh} {W : WX} {e1 : Expr} {t : TA} {p p2 q pos : Pos}
theorem pe_lset (hc : X.calm = true) (hg : Gl X "len") (hm : X.mg "len" = none) (hg2 : Gl X "set") (hm2 : X.mg "set" = none) (ha : PA X [e1] t)
    (na : starEach [.Call (.Name "set" p2) [e1] [] q] X.env = (false, eval (.Call (.Name "set" p2) [e1] [] q) X.env) :: starEach [] X.env := by rfl)
    (he : starEach [e1] X.env = (false, eval e1 X.env) :: starEach [] X.env := by rfl) :
    PE X (.Call (.Name "len" p) [.Call (.Name "set" p2) [e1] [] q] [] pos) (tCB (rLSet X.K) t) := by
  refine ⟨fun pins s σ H Q I h => ?_⟩
  refine PyProof.Rows.Call_ (ld_blt I hg hm PySem.boot_len ?_)
  refine PyProof.Rows.callWith_builtin1 (PyProof.Rows.args_cons ?_ na) na rfl
  refine PyProof.Rows.Call_ (ld_blt I hg2 hm2 PyProof.Rows.boot_set ?_)
  refine PyProof.Rows.callWith_type1 (thn (ha.run q pins s σ H _ I h) fun us s1 ⟨vs, H1, I1, r1, q1⟩ => ?_) he rfl
  obtain ⟨a, b, ks, rfl, hq, hl, q1⟩ := q1
  cases r1 with
  | cons ra rr =>
  cases rr
  cases ra
  obtain ⟨its, rv, pl, hz⟩ := VL.Inv.sqB I1 hq
  refine call_setK (I1.ok.hd hc) pl (ks := ks) (by simpa using rv) (by unfold scanBound; omega) fun h' tk hS hk => ?_
  refine PyProof.Rows.args_nil ?_
  obtain ⟨o, es, ep, t, ho, hex, hd, _, _, _, hf, hn⟩ := hS
  have I2 : Inv X pins σ H1 { s1 with heap := h', toks := tk } := I1.kept hk
  have hl2 := onceK_len ks
  refine call_len_set ho hex hd hf (by rw [hn]; omega) ⟨.int ((onceK ks).length : Nat), H1, I2.tok _, ⟨_, by rw [hn]⟩, q1⟩
def lsetD : D → Option D := fun d => d.mem.bind fun ds => (keyTs ds).bind fun ks => if ks.length ≤ 4000 then some (.int ((onceK ks).length : Nat)) else none
theorem s_lset {K : PySem.W.Frag} : OpN K .leaf (rLSet K) (one lsetD) := by
  refine s_one fun F H x d z Q sm hx ez ok => ?_
  unfold lsetD at ez
  cases m1 : d.mem with
  | none => rw [m1] at ez; cases ez
  | some ds =>
  rw [m1, Option.bind_some] at ez
  cases k1 : keyTs ds with
  | none => rw [k1] at ez; cases ez
  | some ks =>
  rw [k1, Option.bind_some] at ez
  by_cases hl : ks.length ≤ 4000
  · rw [if_pos hl] at ez
    cases ez
    obtain ⟨p, vs, rfl, q1, r1⟩ := hx.memE sm m1
    have ev := keyTsE r1 k1
    subst ev
    rcases q1 with q1 | q1
    · exact ⟨p, false, ks, rfl, q1, hl, ok.here sm (.int _)⟩
    · exact ⟨p, true, ks, rfl, q1, hl, ok.here sm (.int _)⟩
  · rw [if_neg hl] at ez; cases ez
theorem ev_lset {mo : DEnv → R (List Opd)} (K : PySem.W.Frag) (hK : X.K = K) (hc : X.calm = true) (ha : EOs X ks0 W [e1] t mo) (hm : X.mg "len" = none) (hm2 : X.mg "set" = none) (hg : Gl X "len" := by rfl) (hg2 : Gl X "set" := by rfl)
    (na : starEach [.Call (.Name "set" p2) [e1] [] q] X.env = (false, eval (.Call (.Name "set" p2) [e1] [] q) X.env) :: starEach [] X.env := by rfl)
    (he : starEach [e1] X.env = (false, eval e1 X.env) :: starEach [] X.env := by rfl) :
    EV X ks0 W (.Call (.Name "len" p) [.Call (.Name "set" p2) [e1] [] q] [] pos) .leaf (tCB (rLSet K) t) (mOpN (one lsetD) mo) := by
  subst hK
  exact ⟨pe_lset hc hg hm hg2 hm2 ha.pe na he, snd_opN (b := bd X ks0 W) s_lset ha.sd⟩
end
theorem keyTs_strs : ∀ l : List Str, keyTs (l.map .str) = some (l.map Sum.inr)
  | [] => rfl
  | x :: l => by
    show ((keyK (.str x)).bind fun k => (keyTs (l.map .str)).bind fun ks => some (k :: ks)) = _
    rw [keyTs_strs l]; rfl
theorem nodup_inr {l : List Str} : (l.map (Sum.inr : Str → Key)).Nodup ↔ l.Nodup := by
  constructor
  · intro h
    exact List.Pairwise.of_map _ (fun _ _ hne e => hne (congrArg _ e)) h
  · intro h
    exact List.Pairwise.map _ (fun _ _ hne e => hne (Sum.inr.inj e)) h
theorem lset_strs (l : List Str) (h : l.length ≤ 4000) : ∃ n : Nat, lsetD (.tup (l.map .str)) = some (.int n) ∧ (n = l.length ↔ l.Nodup) := by
  refine ⟨(onceK (l.map Sum.inr)).length, ?_, ?_⟩
  · show (keyTs (l.map .str)).bind _ = _
    rw [keyTs_strs, Option.bind_some, if_pos (by rw [List.length_map]; exact h)]
  · rw [← nodup_inr]
    constructor
    · intro e
      refine Decidable.byContradiction fun hn => ?_
      have := onceK_lt (fun z => hn z)
      rw [List.length_map] at this
      omega
    · intro hn
      rw [onceK_nodup hn, List.length_map]
end VL
/-! V46: a call that borrows owned lists: what is told is an atom, the lists stay the caller's own. -/
namespace VL
open PySem PySem.Spec L2
def atomD : D → Bool
  | .non => true | .bl _ => true | .int _ => true | .str _ => true
  | _ => false
def lentO (ρ : DEnv) : Opd → Bool
  | .v _ => true
  | .s i => match ρ[i]? with
    | some (some (.lst _)) => true
    | _ => false
def mCallB (n : Nat) (g : List D → R D) (mo : DEnv → R (List Opd)) : ME := fun ρ => (mo ρ).bind fun os ρ1 => match getAll os ρ1 with
  | some ds => if ds.length = n ∧ os.all (lentO ρ1) = true then (match g ds with
    | .ok d _ => if atomD d = true then .ok d ρ1 else .no
    | _ => .no) else .no
  | none => .no
section
variable {b : Bd} {F H : Hp} {σ : St} {fp : List Addr}
variable {t : TA} {n : Nat} {g : List D → R D} {W : WX} {mo : DEnv → R (List Opd)}
end
section
variable {X : Cx} {CX : CXT} {k n : Nat} {x : Str} {g : List D → R D} {ks : List Sh} {W : WX} {e : Expr} {es : List Expr} {p pos : Pos} {t : TA} {mo : DEnv → R (List Opd)}
end
@[simp] theorem e_callB (n : Nat) (g : List D → R D) (mo : DEnv → R (List Opd)) (ρ : DEnv) : mCallB n g mo ρ = (mo ρ).bind fun os ρ1 => match getAll os ρ1 with
  | some ds => if ds.length = n ∧ os.all (lentO ρ1) = true then (match g ds with
    | .ok d _ => if atomD d = true then .ok d ρ1 else .no
    | _ => .no) else .no
  | none => .no := rfl
end VL
set_option maxHeartbeats 1000000
/-! V47: instances owned by a slot: their fields found, changed, hidden while another part is reckoned. -/
namespace VL
open PySem PySem.Spec L2
section
variable {K : PySem.W.Frag} {F H : Hp}
theorem OF.names : ∀ {sf : List (Str × Sh)} {fv : List (Str × V)} {fd : List (Str × D)} {fp : List Addr}, OF K F H sf fv fd fp → fv.map Prod.fst = fd.map Prod.fst ∧ ∃ r, sf.map Prod.fst = fd.map Prod.fst ++ r
  | sf, _, _, _, .nil => ⟨rfl, sf.map Prod.fst, rfl⟩
  | _, _, _, _, .cons _ t => by
    obtain ⟨h1, r, h2⟩ := OF.names t
    exact ⟨by rw [List.map_cons, List.map_cons, h1], r, by rw [List.map_cons, List.map_cons, h2]; rfl⟩
theorem OF.len {sf : List (Str × Sh)} {fv : List (Str × V)} {fd : List (Str × D)} {fp : List Addr} (h : OF K F H sf fv fd fp) : fv.length = fd.length ∧ fd.length ≤ sf.length := by
  obtain ⟨h1, r, h2⟩ := h.names
  have e1 := congrArg List.length h1
  have e2 := congrArg List.length h2
  simp only [List.length_map, List.length_append] at e1 e2
  omega
/-- the field number j -/
theorem OF.at_ {x : Str} {d : D} : ∀ {sf : List (Str × Sh)} {fv : List (Str × V)} {fd : List (Str × D)} {fp : List Addr} {j : Nat}, OF K F H sf fv fd fp → fd[j]? = some (x, d) →
    ∃ s v f g, sf[j]? = some (x, s) ∧ fv[j]? = some (x, v) ∧ OR K F H s v d f ∧ fp.Perm (f ++ g) ∧
      ∀ {F' H' : Hp} {v' : V} {d' : D} {f' : List Addr}, Same F F' → (∀ a ∈ g, F' a = none ∧ H' a = H a) → OR K F' H' s v' d' f' → ∃ fp', OF K F' H' sf (fv.set j (x, v')) (fd.set j (x, d')) fp' ∧ fp'.Perm (f' ++ g)
  | _, _, _, _, j, .nil, e => by simp at e
  | _, _, _, _, 0, .cons (f := f) (g := g) o t, e => by
    simp at e
    obtain ⟨rfl, rfl⟩ := e
    refine ⟨_, _, f, g, rfl, rfl, o, .rfl, fun s0 hg o' => ⟨_, .cons o' (t.frame s0 hg), .rfl⟩⟩
  | _, _, _, _, j + 1, .cons (f := f0) (g := g0) o t, e => by
    obtain ⟨s, v, f, g, h1, h2, h3, h4, h5⟩ := OF.at_ (j := j) t (by simpa using e)
    refine ⟨s, v, f, f0 ++ g, by simpa using h1, by simpa using h2, h3, ?_, fun {F' H' v' d' f'} s0 hg o' => ?_⟩
    · refine (List.Perm.append_left f0 h4).trans ?_
      rw [← List.append_assoc, ← List.append_assoc]
      exact List.Perm.append_right g List.perm_append_comm
    · obtain ⟨fp', q1, q2⟩ := h5 s0 (fun a m => hg a (List.mem_append_right _ m)) o'
      refine ⟨f0 ++ fp', .cons (o.frame s0 fun a m => hg a (List.mem_append_left _ m)) q1, ?_⟩
      refine (List.Perm.append_left f0 q2).trans ?_
      rw [← List.append_assoc, ← List.append_assoc]
      exact List.Perm.append_right g List.perm_append_comm
/-- a field more -/
theorem OF.snoc {x : Str} {s : Sh} {v : V} {d : D} {f : List Addr} (o : OR K F H s v d f) : ∀ {sf : List (Str × Sh)} {fv : List (Str × V)} {fd : List (Str × D)} {fp : List Addr}, OF K F H sf fv fd fp → sf[fd.length]? = some (x, s) → ∃ fp', OF K F H sf (fv ++ [(x, v)]) (fd ++ [(x, d)]) fp' ∧ fp'.Perm (f ++ fp)
  | [], _, _, _, .nil, e => by simp at e
  | (y, s') :: sf, _, _, _, .nil, e => by
    simp at e
    obtain ⟨rfl, rfl⟩ := e
    exact ⟨f ++ [], .cons o .nil, .rfl⟩
  | _, _, _, _, .cons (f := f0) (g := g0) o0 t, e => by
    obtain ⟨fp', q1, q2⟩ := OF.snoc o t (by simpa using e)
    refine ⟨f0 ++ fp', .cons o0 q1, ?_⟩
    refine (List.Perm.append_left f0 q2).trans ?_
    rw [← List.append_assoc, ← List.append_assoc]
    exact List.Perm.append_right g0 List.perm_append_comm
theorem fv_look {x : Str} {v : V} : ∀ {fv : List (Str × V)} {j : Nat}, (fv.map Prod.fst).Nodup → fv[j]? = some (x, v) → fv.lookup x = some v
  | [], j, _, e => by simp at e
  | (y, w) :: fv, 0, _, e => by
    simp at e
    obtain ⟨rfl, rfl⟩ := e
    simp [List.lookup]
  | (y, w) :: fv, j + 1, nd, e => by
    rw [List.map_cons, List.nodup_cons] at nd
    have m : x ∈ fv.map Prod.fst := List.mem_map.mpr ⟨(x, v), List.mem_of_getElem? (by simpa using e), rfl⟩
    have ne : (x == y) = false := beq_eq_false_iff_ne.mpr fun z => nd.1 (z ▸ m)
    rw [List.lookup, ne]
    exact fv_look nd.2 (by simpa using e)
theorem fv_no {x : Str} : ∀ {fv : List (Str × V)}, x ∉ fv.map Prod.fst → fv.lookup x = none
  | [], _ => rfl
  | (y, w) :: fv, h => by
    rw [List.map_cons, List.mem_cons, not_or] at h
    have ne : (x == y) = false := beq_eq_false_iff_ne.mpr h.1
    rw [List.lookup, ne]
    exact fv_no h.2
theorem putF_at {x : Str} {v v' : V} : ∀ {fv : List (Str × V)} {j : Nat}, (fv.map Prod.fst).Nodup → fv[j]? = some (x, v) → putF x v' fv = fv.set j (x, v')
  | [], j, _, e => by simp at e
  | (y, w) :: fv, 0, _, e => by
    simp at e
    obtain ⟨rfl, rfl⟩ := e
    unfold putF
    rw [if_pos rfl]; rfl
  | (y, w) :: fv, j + 1, nd, e => by
    rw [List.map_cons, List.nodup_cons] at nd
    have m : x ∈ fv.map Prod.fst := List.mem_map.mpr ⟨(x, v), List.mem_of_getElem? (by simpa using e), rfl⟩
    unfold putF
    have ne : ¬ y = x := fun z => nd.1 (by rw [z]; exact m)
    rw [if_neg ne, putF_at nd.2 (by simpa using e)]; rfl
theorem putF_no {x : Str} {v' : V} : ∀ {fv : List (Str × V)}, x ∉ fv.map Prod.fst → putF x v' fv = fv ++ [(x, v')]
  | [], _ => rfl
  | (y, w) :: fv, h => by
    rw [List.map_cons, List.mem_cons, not_or] at h
    unfold putF
    have ne : ¬ y = x := fun z => h.1 z.symm
    rw [if_neg ne, putF_no h.2]; rfl
end
section
variable {K : PySem.W.Frag} {ks : List Sh} {F H : Hp} {ρ : DEnv} {σ : St} {fp : List Addr} {i : Nat}
theorem Ext.weak {F1 H1 : Hp} {g g1 : List Addr} (x : Ext F H g F1 H1 g1) (s : ∀ a ∈ g, a ∈ fp) : Ext F H fp F1 H1 g1 := ⟨fun a o e n => x.keep a o e fun q => n (s a q), fun a m => (x.fr a m).imp (s a) id⟩
/-- a slot hidden while another part is reckoned, and shown again -/
theorem Rel.hide {s : Sh} {d : D} (r : Rel K ks F H ρ σ fp) (hk : ks[i]? = some s) (e : ρ[i]? = some (some d)) :
    ∃ v f g, σ[i]? = some (some v) ∧ OR K F H s v d f ∧ Rel K ks F H (ρ.set i none) σ g ∧ (∀ a ∈ g, a ∈ fp) ∧ ∀ {F1 H1 : Hp} {ρ1 : DEnv} {g1 : List Addr}, Rel K ks F1 H1 ρ1 σ g1 → Ext F H g F1 H1 g1 →
      OR K F1 H1 s v d f ∧ (∀ a ∈ f, F1 a = none ∧ H1 a = H a) ∧ ∃ fp1, Rel K ks F1 H1 (ρ1.set i (some d)) σ fp1 ∧ Ext F H fp F1 H1 fp1 := by
  obtain ⟨v, f, g, s1, o1, sl, pm⟩ := r.sl.split hk e
  have nda := List.nodup_append.mp (pm.nodup_iff.mp r.nd)
  refine ⟨v, f, g, s1, o1, ⟨r.sub, nda.2.1, sl⟩, fun y m => pm.symm.subset (List.mem_append_right _ m), fun {F1 H1 ρ1 g1} r1 x1 => ?_⟩
  have f_in : ∀ y ∈ f, y ∈ fp := fun y m => pm.symm.subset (List.mem_append_left _ m)
  have g_in : ∀ y ∈ g, y ∈ fp := fun y m => pm.symm.subset (List.mem_append_right _ m)
  have fk : ∀ a ∈ f, F1 a = none ∧ H1 a = H a := fun a m => by
    obtain ⟨n, o, ho⟩ := o1.own a m
    obtain ⟨k1, k2⟩ := x1.keep a o ho fun q => nda.2.2 a m a q rfl
    exact ⟨k2.trans n, k1.trans ho.symm⟩
  have sm : Same F F1 := x1.same r.sub fun a m => (sl.own a m).1
  have o2 := o1.frame sm fk
  obtain ⟨g2, w1, w2⟩ := r1.sl.wipe1 i
  obtain ⟨fp1, j1, j2⟩ := RelL.join o2 w1 hk s1
  have dis : ∀ a ∈ f, a ∉ g2 := fun a m q => by
    obtain ⟨_, o, ho⟩ := o1.own a m
    rcases x1.fr a (w2.subset q) with z | z
    · exact nda.2.2 a m a z rfl
    · rw [z] at ho; cases ho
  refine ⟨o2, fk, fp1, ⟨r1.sub, j2.nodup_iff.mpr (List.nodup_append.mpr ⟨nda.1, r1.nd.sublist w2, fun a m b q z => dis a m (z ▸ q)⟩), j1⟩, ⟨fun a o ho n => x1.keep a o ho fun q => n (g_in a q), fun a m => ?_⟩⟩
  rcases List.mem_append.mp (j2.subset m) with m | m
  · exact .inl (f_in a m)
  · exact (x1.fr a (w2.subset m)).imp (g_in a) id
/-- the instance of a slot, and how it is changed: cells f of it are given up for f' -/
theorem Rel.inst {C : Addr} {sf : List (Str × Sh)} {d : D} (r : Rel K ks F H ρ σ fp) (hk : ks[i]? = some (.ins C sf)) (e : ρ[i]? = some (some d)) :
    ∃ c fd p dx fv fi, d = .ob c fd ∧ σ[i]? = some (some (.ref p)) ∧ F p = none ∧ F dx = none ∧ H p = some (.ins C dx fv) ∧ H dx = some (.own p) ∧ OF K F H sf fv fd fi ∧ p ∉ fi ∧ dx ∉ fi ∧ p ≠ dx ∧ fi.Nodup ∧ (∀ a ∈ fi, a ∈ fp) ∧ p ∈ fp ∧
      ∀ {F' H' : Hp} {fv' : List (Str × V)} {fd' : List (Str × D)} {fi' : List Addr}, Sub F' H' → Same F F' → F' p = none → F' dx = none → H' p = some (.ins C dx fv') → H' dx = some (.own p) → OF K F' H' sf fv' fd' fi' → fi'.Nodup → (∀ a ∈ fi', a ∈ fi ∨ a ∉ fp) →
        (∀ a o, H a = some o → a ≠ p → a ∉ fi → F' a = F a ∧ H' a = some o) → ∃ gp, Rel K ks F' H' (ρ.set i (some (.ob c fd'))) σ gp ∧ (∀ a o, H a = some o → a ∉ fp → H' a = some o ∧ F' a = F a) ∧ ∀ a ∈ gp, a ∈ fp ∨ a ∈ fi' := by
  obtain ⟨v, f, g, s1, o1, sl, pm⟩ := r.sl.split hk e
  cases o1 with
  | @ins _ p dx c _ fv fd fi np ndx hp hdx of =>
    have nd := pm.nodup_iff.mp r.nd
    have nda := List.nodup_append.mp nd
    obtain ⟨n1, n2⟩ := List.nodup_cons.mp nda.1
    obtain ⟨n3, n4⟩ := List.nodup_cons.mp n2
    have pdx : p ≠ dx := fun z => n1 (z ▸ List.mem_cons_self)
    have pfi : p ∉ fi := fun m => n1 (List.mem_cons_of_mem _ m)
    have inp : ∀ a ∈ p :: dx :: fi, a ∈ fp := fun a m => pm.symm.subset (List.mem_append_left _ m)
    have ing : ∀ a ∈ g, a ∈ fp := fun a m => pm.symm.subset (List.mem_append_right _ m)
    refine ⟨c, fd, p, dx, fv, fi, rfl, s1, np, ndx, hp, hdx, of, pfi, n3, pdx, n4, fun a m => inp a (List.mem_cons_of_mem _ (List.mem_cons_of_mem _ m)), inp p List.mem_cons_self, fun {F' H' fv' fd' fi'} sb sm np' ndx' hp' hdx' of' nfi' ffi' kp => ?_⟩
    have gk : ∀ a ∈ g, F' a = none ∧ H' a = H a := fun a m => by
      obtain ⟨n, o, ho⟩ := sl.own a m
      have a1 : a ≠ p := fun z => nda.2.2 p List.mem_cons_self a m z.symm
      have a2 : a ∉ fi := fun q => nda.2.2 a (List.mem_cons_of_mem _ (List.mem_cons_of_mem _ q)) a m rfl
      obtain ⟨k1, k2⟩ := kp a o ho a1 a2
      exact ⟨k1.trans n, k2.trans ho.symm⟩
    have o2 : OR K F' H' (.ins C sf) (.ref p) (.ob c fd') (p :: dx :: fi') := .ins np' ndx' hp' hdx' of'
    obtain ⟨gp, j1, j2⟩ := RelL.join o2 (sl.frame sm gk) hk s1
    have nfi : ∀ a ∈ fi', a ≠ p ∧ a ≠ dx ∧ a ∉ g := fun a m => by
      rcases ffi' a m with q | q
      · exact ⟨fun z => pfi (z ▸ q), fun z => n3 (z ▸ q), fun q2 => nda.2.2 a (List.mem_cons_of_mem _ (List.mem_cons_of_mem _ q)) a q2 rfl⟩
      · exact ⟨fun z => q (z ▸ inp p List.mem_cons_self), fun z => q (z ▸ inp dx (List.mem_cons_of_mem _ List.mem_cons_self)), fun q2 => q (ing a q2)⟩
    have ndo : (p :: dx :: fi').Nodup := List.nodup_cons.mpr ⟨fun m => by
      rcases List.mem_cons.mp m with z | m
      · exact pdx z
      · exact (nfi p m).1 rfl, List.nodup_cons.mpr ⟨fun m => (nfi dx m).2.1 rfl, nfi'⟩⟩
    refine ⟨gp, ⟨sb, j2.nodup_iff.mpr (List.nodup_append.mpr ⟨ndo, nda.2.1, fun a m b q z => ?_⟩), j1⟩, fun a o ho n => ?_, fun a m => ?_⟩
    · subst z
      rcases List.mem_cons.mp m with z | m
      · exact nda.2.2 p List.mem_cons_self a q z.symm
      · rcases List.mem_cons.mp m with z | m
        · exact nda.2.2 dx (List.mem_cons_of_mem _ List.mem_cons_self) a q z.symm
        · exact (nfi a m).2.2 q
    · obtain ⟨k1, k2⟩ := kp a o ho (fun z => n (z ▸ inp p List.mem_cons_self)) fun q => n (inp a (List.mem_cons_of_mem _ (List.mem_cons_of_mem _ q)))
      exact ⟨k2, k1⟩
    · rcases List.mem_append.mp (j2.subset m) with m | m
      · rcases List.mem_cons.mp m with rfl | m
        · exact .inl (inp _ List.mem_cons_self)
        · rcases List.mem_cons.mp m with rfl | m
          · exact .inl (inp _ (List.mem_cons_of_mem _ List.mem_cons_self))
          · exact .inr m
      · exact .inl (ing a m)
end
end VL
set_option maxHeartbeats 1000000
/-! V48: the fields of an owned instance: read, asked, changed. -/
namespace VL
open PySem PySem.Spec L2
def fldD (j : Nat) : D → Option (Str × D)
  | .ob _ fs => fs[j]?
  | _ => none
def withF (j : Nat) (x : Str) (d : D) : D → D
  | .ob c fs => .ob c (fs.set j (x, d))
  | d0 => d0
def putFd (j : Nat) (x : Str) (d : D) : D → Option D
  | .ob c fs => if j < fs.length then some (.ob c (fs.set j (x, d))) else if j = fs.length then some (.ob c (fs ++ [(x, d)])) else none
  | _ => none
def mFd (i j : Nat) : ME := fun ρ => R.of ((own ρ i).bind fun o => (fldD j o).map Prod.snd) ρ
theorem OF.nd {K : PySem.W.Frag} {F H : Hp} {sf : List (Str × Sh)} {fv : List (Str × V)} {fd : List (Str × D)} {fp : List Addr} (h : OF K F H sf fv fd fp) (nd : (sf.map Prod.fst).Nodup) : (fv.map Prod.fst).Nodup := by
  obtain ⟨e1, r, e2⟩ := h.names
  rw [e1]
  rw [e2] at nd
  exact (List.nodup_append.mp nd).1
/-- a thing looked at where it stands, at once -/
def OkL (b : Bd) (F H : Hp) (fp : List Addr) (σ : St) (Q : VK) : R D → Prop
  | .no => False
  | .ok d ρ' => ∀ v F' H' fp', Rel b.K b.ks F' H' ρ' σ fp' → Ext F H fp F' H' fp' → Vw b.K F' H' v d → Q v H'
  | .ex e ρ' => OkX b F H fp σ e ρ'
def SndL (b : Bd) (t : TE) (m : ME) : Prop := ∀ ρ σ F H fp Q, Rel b.K b.ks F H ρ σ fp → OkL b F H fp σ Q (m ρ) → t σ H Q
structure EL (X : Cx) (ks : List Sh) (W : WX) (e : Expr) (t : TE) (m : ME) : Prop where
  pe : PE X e t
  sd : SndL (bd X ks W) t m
theorem SndL.go {b : Bd} {t : TE} {P : VK} {ρ : DEnv} {σ : St} {F H : Hp} {fp : List Addr} {m : ME} (h : SndL b t m) (r : Rel b.K b.ks F H ρ σ fp) {α : Type} {f : D → DEnv → R α} {Ok : R α → Prop} (hok : Ok ((m ρ).bind f)) (hn : ¬ Ok .no) (hx : ∀ e ρ1, Ok (.ex e ρ1) → OkX b F H fp σ e ρ1)
    (k : ∀ d ρ1 v F1 H1 fp1, Ok (f d ρ1) → Rel b.K b.ks F1 H1 ρ1 σ fp1 → Ext F H fp F1 H1 fp1 → Vw b.K F1 H1 v d → P v H1) : t σ H P := by
  refine h ρ σ F H fp P r ?_
  cases e : m ρ with
  | no => rw [e] at hok; exact (hn hok).elim
  | ex x ρ1 => rw [e] at hok; exact hx _ _ hok
  | ok d ρ1 =>
    rw [e] at hok
    intro v F1 H1 fp1 r1 x1 o1
    exact k d ρ1 v F1 H1 fp1 hok r1 x1 o1
/-- how an owned thing is viewed -/
theorem OR.vw {K : PySem.W.Frag} {F H : Hp} {s : Sh} {v : V} {d : D} {f : List Addr} (o : OR K F H s v d f) (hs : s = .leaf ∨ s = .lst .leaf ∨ s = .dic .leaf) : Vw K F H v d := by
  rcases hs with rfl | rfl | rfl
  · obtain ⟨r, _⟩ := o.leafE; exact .rep r
  · cases o with
    | lst a c q => obtain ⟨q1, _⟩ := q.leafE; exact .lst c q1
  · cases o with
    | dK a c k q => obtain ⟨q1, _⟩ := q.leafE; exact .dK c k q1
    | dT a c k q => obtain ⟨q1, _⟩ := q.leafE; exact .dT c k q1
section
variable {X : Cx} {ks : List Sh} {W : WX} {y f : Str} {p pos pos' p3 : Pos} {C : Addr} {sf : List (Str × Sh)} {s : Sh}
/-- what holds of a field at the moment -/
theorem fld_of {b : Bd} {ρ : DEnv} {σ : St} {F H : Hp} {fp : List Addr} {i j : Nat} {d : D} (r : Rel b.K b.ks F H ρ σ fp) (hk : b.ks[i]? = some (.ins C sf)) (hs : sf[j]? = some (f, s)) (nd : (sf.map Prod.fst).Nodup) (e : ((own ρ i).bind fun o => (fldD j o).map Prod.snd) = some d) :
    ∃ p dx fv v f0, σ[i]? = some (some (.ref p)) ∧ H p = some (.ins C dx fv) ∧ fv.lookup f = some v ∧ OR b.K F H s v d f0 := by
  cases e1 : own ρ i with
  | none => rw [e1] at e; cases e
  | some o =>
    rw [e1, Option.bind_some] at e
    obtain ⟨c, fd, p, dx, fv, fi, rfl, s1, np, ndx, hp, hdx, of, _⟩ := r.inst hk (getE e1)
    obtain ⟨⟨x, d'⟩, e2, rfl⟩ := Option.map_eq_some_iff.mp e
    obtain ⟨s', v, f0, g, h1, h2, h3, _⟩ := of.at_ (show fd[j]? = some (x, d') from e2)
    rw [hs] at h1
    cases h1
    exact ⟨p, dx, fv, v, f0, s1, hp, fv_look (of.nd nd) h2, h3⟩
theorem ev_fldO (i j : Nat) (cl : Cls X.K C) (na : NoAttr X.K C f) (hs : sf[j]? = some (f, .leaf) := by rfl) (nd : (sf.map Prod.fst).Nodup := by decide) (hk : ks[i]? = some (.ins C sf) := by rfl) (hN : X.N[i]? = some y := by rfl)
    (hvi : Vis X.env.scope y := by first | exact Or.inl rfl | exact Or.inr (Or.inl rfl) | exact Or.inr (Or.inr rfl)) (hd : (y == ("__debug__" : Str)) = false := by decide) (hcd : (y == ("__classdict__" : Str)) = false := by decide)
    (hb : attributeBase (.Name y p) f X.env (eval (.Name y p) X.env) = eval (.Name y p) X.env := by rfl) : EV X ks W (.Attribute (.Name y p) f pos) .leaf (tFld X.K (tVar i) f) (mFd i j) := by
  refine ⟨pe_fld (pe_var hN hvi hd hcd) hb, fun ρ σ F H fp Q r hok => ?_⟩
  unfold mFd at hok
  cases e : ((own ρ i).bind fun o => (fldD j o).map Prod.snd) with
  | none => rw [e] at hok; exact (show False from hok).elim
  | some d =>
    rw [e] at hok
    obtain ⟨p, dx, fv, v, f0, s1, hp, hl, o⟩ := fld_of r hk hs nd e
    obtain ⟨rp, rfl⟩ := o.leafE
    exact ⟨.ref p, s1, p, C, dx, fv, v, rfl, hp, cl, na, hl, hok v F H fp [] r (by rw [List.append_nil]; exact r.nd) (by rw [List.append_nil]; exact .refl) (.leaf rp)⟩
theorem el_fld (i j : Nat) (cl : Cls X.K C) (na : NoAttr X.K C f) (hsh : s = .leaf ∨ s = .lst .leaf ∨ s = .dic .leaf) (hs : sf[j]? = some (f, s) := by rfl) (nd : (sf.map Prod.fst).Nodup := by decide) (hk : ks[i]? = some (.ins C sf) := by rfl) (hN : X.N[i]? = some y := by rfl)
    (hvi : Vis X.env.scope y := by first | exact Or.inl rfl | exact Or.inr (Or.inl rfl) | exact Or.inr (Or.inr rfl)) (hd : (y == ("__debug__" : Str)) = false := by decide) (hcd : (y == ("__classdict__" : Str)) = false := by decide)
    (hb : attributeBase (.Name y p) f X.env (eval (.Name y p) X.env) = eval (.Name y p) X.env := by rfl) : EL X ks W (.Attribute (.Name y p) f pos) (tFld X.K (tVar i) f) (mFd i j) := by
  refine ⟨pe_fld (pe_var hN hvi hd hcd) hb, fun ρ σ F H fp Q r hok => ?_⟩
  unfold mFd at hok
  cases e : ((own ρ i).bind fun o => (fldD j o).map Prod.snd) with
  | none => rw [e] at hok; exact (show False from hok).elim
  | some d =>
    rw [e] at hok
    obtain ⟨p, dx, fv, v, f0, s1, hp, hl, o⟩ := fld_of r hk hs nd e
    exact ⟨.ref p, s1, p, C, dx, fv, v, rfl, hp, cl, na, hl, hok v F H fp r .refl (o.vw hsh)⟩
def mOp2L (f : D → D → Option D) (a : MO) (m : ME) : ME := fun ρ => (a ρ).bind fun x ρ1 => (m ρ1).bind fun e ρ2 => R.of ((x.get ρ2).bind fun d => f d e) ρ2
theorem snd_op2L {b : Bd} {sh : Sh} {ta tb : TE} {r : R2} {f : D → D → Option D} {a : MO} {c : ME} (ho : Op2 b.K sh r f) (ha : SndO b ta a) (hc : SndL b tb c) : SndE b sh (tOp r ta tb) (mOp2L f a c) := by
  intro ρ σ F H fp Q r0 hok
  refine ha.go r0 (Ok := OkE b sh F H fp σ Q) hok (fun z => z) (fun _ _ z => z) fun x ρ1 v F1 H1 fp1 h1 r1 x1 o1 => ?_
  refine hc.go r1 (Ok := OkE b sh F1 H1 fp1 σ Q) (h1.ext x1) (fun z => z) (fun _ _ z => z) fun e ρ2 u F2 H2 fp2 h2 r2 x2 o2 => ?_
  have o1' := o1.mono (r1.same x2)
  cases e1 : x.get ρ2 with
  | none => rw [e1] at h2; exact (show False from h2).elim
  | some d =>
    cases e3 : f d e with
    | none => rw [e1, Option.bind_some, e3] at h2; exact (show False from h2).elim
    | some z =>
      rw [e1, Option.bind_some, e3] at h2
      exact ho F2 H2 v u d e z Q r2.sub (o1'.vw r2 e1) o2 e3 ((h2.ext x2).done r2)
variable {a c : Expr} {ta tc : TE} {sh : Sh}
theorem et_cmpL {op : CmpOp} {r : R2} {f : D → D → Option D} {mo : MO} {m : ME} (ho : OpR X (compareOp op) r) (hs : Op2 X.K .leaf r f) (ha : EO X ks W a ta mo) (hc : EL X ks W c tc m) (hm : behindInMarks op c = false) : ET X ks W (.Compare a [op] [c] pos) (tTest (tOp r ta tc)) (mTest (mOp2L f mo m)) :=
  ⟨pt_cmpR ho ha.pe hc.pe hm, snd_test (snd_op2L (b := bd X ks W) hs ha.sd hc.sd)⟩
/-- one field asked by a built-in -/
def mOpL (f : D → Option D) (m : ME) : ME := fun ρ => (m ρ).bind fun d ρ1 => R.of (f d) ρ1
theorem ev_callBL {x : Str} {q : Pos} {id : String} {r : List V → Hp → VK → Prop} {f : D → Option D} {m : ME} (ho : CallR X (.builtin id) r) (hs : OpN X.K sh r (one f)) (ha : EL X ks W a ta m) (hm : X.mg x = none) (hv : bootBuiltins x = some (.builtin id))
    (hg : Gl X x := by rfl) (hn : x ≠ "__name__" := by decide) (hdb : (x == ("__debug__" : Str)) = false := by decide)
    (he : starEach [a] X.env = (false, eval a X.env) :: starEach [] X.env := by rfl) : EV X ks W (.Call (.Name x q) [a] [] pos) sh (tCB r (tCons ta tNil)) (mOpL f m) := by
  refine ⟨pe_callB ho hg hm hv (pa_cons ha.pe pa_nil he) hn hdb he rfl, fun ρ σ F H fp Q r0 hok => ?_⟩
  refine ha.sd.go r0 (Ok := OkE (bd X ks W) sh F H fp σ Q) hok (fun z => z) (fun _ _ z => z) fun d ρ1 v F1 H1 fp1 h1 r1 x1 o1 => ?_
  cases e : f d with
  | none => rw [e] at h1; exact (show False from h1).elim
  | some z =>
    rw [e] at h1
    exact hs F1 H1 [v] [d] z Q r1.sub (.cons o1 .nil) e ((h1.ext x1).done r1)
/-- self.f[k]: the instance hidden while k is reckoned -/
def mFix (i j : Nat) (mc : ME) : ME := fun ρ => match own ρ i with
  | some o => (match fldD j o with
    | some q => (mc (ρ.set i none)).bind fun k ρ1 => R.of (ixD q.2 k) (ρ1.set i (some o))
    | none => .no)
  | none => .no
theorem ev_fix (i j : Nat) {r : R2} {mc : ME} (ho : IxR X r) (hop : Op2 X.K sh r ixD) (cl : Cls X.K C) (na : NoAttr X.K C f) (hc : EV X ks W c .leaf tc mc) (hsh : s = .leaf ∨ s = .lst .leaf ∨ s = .dic .leaf) (hs : sf[j]? = some (f, s) := by rfl) (nd : (sf.map Prod.fst).Nodup := by decide) (hk : ks[i]? = some (.ins C sf) := by rfl) (hN : X.N[i]? = some y := by rfl)
    (hvi : Vis X.env.scope y := by first | exact Or.inl rfl | exact Or.inr (Or.inl rfl) | exact Or.inr (Or.inr rfl)) (hd : (y == ("__debug__" : Str)) = false := by decide) (hcd : (y == ("__classdict__" : Str)) = false := by decide)
    (hb : attributeBase (.Name y p) f X.env (eval (.Name y p) X.env) = eval (.Name y p) X.env := by rfl) (hx : PlainIx c := by exact fun _ _ => rfl) : EV X ks W (.Subscript (.Attribute (.Name y p) f pos) c pos') sh (tOp r (tFld X.K (tVar i) f) tc) (mFix i j mc) := by
  refine ⟨pe_ix ho (pe_fld (pe_var hN hvi hd hcd) hb) hc.pe hx, fun ρ σ F H fp Q r0 hok => ?_⟩
  unfold mFix at hok
  cases e1 : own ρ i with
  | none => rw [e1] at hok; exact (show False from hok).elim
  | some o =>
    rw [e1] at hok
    dsimp only at hok
    cases e2 : fldD j o with
    | none => rw [e2] at hok; exact (show False from hok).elim
    | some q =>
      rw [e2] at hok
      dsimp only at hok
      obtain ⟨p, dx, fv, v, f0, s1, hp, hl, ov⟩ := fld_of (d := q.2) r0 hk hs nd (by rw [e1, Option.bind_some, e2]; rfl)
      refine ⟨.ref p, s1, p, C, dx, fv, v, rfl, hp, cl, na, hl, ?_⟩
      obtain ⟨w, f1, g, s2, o1, rh, gin, back⟩ := r0.hide hk (getE e1)
      rw [s1] at s2
      cases s2
      refine hc.sd.go rh (Ok := OkE (bd X ks W) sh F H fp σ Q) hok (fun z => z) (fun _ _ z cls dx F' H' fp' r' x' ex => z cls dx F' H' fp' r' (x'.weak gin) ex) fun kd ρ1 u F1 H1 fp1 h1 r1 x1 p1 => ?_
      obtain ⟨o2, fk, fpn, rn, xn⟩ := back r1 x1
      cases e3 : ixD q.2 kd with
      | none => rw [e3] at h1; exact (show False from h1).elim
      | some z =>
        rw [e3] at h1
        have hi : i < ρ1.length := by
          have := (List.getElem?_eq_some_iff.mp hk).1
          rw [r1.sl.lens.1] at this; exact this
        have e4 : own (ρ1.set i (some o)) i = some o := by unfold own; rw [List.getElem?_set_self hi]; rfl
        obtain ⟨p', dx', fv', v', f0', s1', hp', hl', ov'⟩ := fld_of (d := q.2) rn hk hs nd (by rw [e4, Option.bind_some, e2]; rfl)
        rw [s1] at s1'
        cases s1'
        have pin : p ∈ f1 := by cases o1; exact List.mem_cons_self
        rw [(fk p pin).2, hp] at hp'
        cases hp'
        rw [hl] at hl'
        cases hl'
        exact hop F1 H1 v u q.2 kd z Q rn.sub (ov'.vw hsh) (.rep p1) e3 ((OkE.ext xn h1).done rn)
/-! ### self.f[k] = v -/
/-- a dict held by a field -/
theorem Rel.fldK {b : Bd} {ρ : DEnv} {σ : St} {F H : Hp} {fp : List Addr} {i j : Nat} {o : D} {x : Str} {d : D} (r : Rel b.K b.ks F H ρ σ fp) (hk : b.ks[i]? = some (.ins C sf)) (hs : sf[j]? = some (f, .dic .leaf)) (nd : (sf.map Prod.fst).Nodup) (e : own ρ i = some o) (e2 : fldD j o = some (x, d)) :
    ∃ p dx fv q, σ[i]? = some (some (.ref p)) ∧ H p = some (.ins C dx fv) ∧ fv.lookup f = some (.ref q) ∧ x = f ∧ F q = none ∧ q ≠ p ∧
      (∀ ds, d = .dK ds → ∃ kvs, H q = some (.dK kvs) ∧ kvs.map Prod.fst = ds.map Prod.fst ∧ Reps b.K F (kvs.map Prod.snd) (ds.map Prod.snd) ∧ ∀ kvs' ds', kvs'.map Prod.fst = ds'.map Prod.fst → Reps b.K F (kvs'.map Prod.snd) (ds'.map Prod.snd) → ∃ gp, Rel b.K b.ks F (upd H q (.dK kvs')) (ρ.set i (some (withF j f (.dK ds') o))) σ gp ∧ Ext F H fp F (upd H q (.dK kvs')) gp) ∧
      (∀ ds, d = .dT ds → ∃ kvs, H q = some (.dT kvs) ∧ kvs.map Prod.fst = ds.map Prod.fst ∧ Reps b.K F (kvs.map Prod.snd) (ds.map Prod.snd) ∧ ∀ kvs' ds', kvs'.map Prod.fst = ds'.map Prod.fst → Reps b.K F (kvs'.map Prod.snd) (ds'.map Prod.snd) → ∃ gp, Rel b.K b.ks F (upd H q (.dT kvs')) (ρ.set i (some (withF j f (.dT ds') o))) σ gp ∧ Ext F H fp F (upd H q (.dT kvs')) gp) := by
  obtain ⟨c, fd, p, dx, fv, fi, rfl, s1, np, ndx, hp, hdx, of, pfi, dxfi, pdx, ndfi, fin, pin, step⟩ := r.inst hk (getE e)
  obtain ⟨s', v, f0, g, h1, h2, h3, h4, h5⟩ := of.at_ (show fd[j]? = some (x, d) from e2)
  rw [hs] at h1
  cases h1
  have hl := fv_look (of.nd nd) h2
  -- what a change of the dict alone leaves
  have go : ∀ (q : Addr) (u : HO) (d' : D), f0 = [q] → F q = none → (∀ xs, u ≠ .tup xs) → OR b.K F (upd H q u) (.dic .leaf) (.ref q) d' [q] → v = .ref q → ∃ gp, Rel b.K b.ks F (upd H q u) (ρ.set i (some (withF j f d' (.ob c fd)))) σ gp ∧ Ext F H fp F (upd H q u) gp := by
    rintro q u d' rfl nq nt o' rfl
    have qfi : q ∈ fi := h4.symm.subset (List.mem_append_left _ (List.mem_singleton.mpr rfl))
    have qp : p ≠ q := fun z => pfi (z ▸ qfi)
    have qdx : dx ≠ q := fun z => dxfi (z ▸ qfi)
    have ndg := List.nodup_append.mp (h4.nodup_iff.mp ndfi)
    obtain ⟨fp', q1, q2⟩ := h5 (F' := F) (H' := upd H q u) (v' := .ref q) (d' := d') (f' := [q]) (fun _ _ z => z) (fun a m => ⟨(of.own a (h4.symm.subset (List.mem_append_right _ m))).1, upd_ne fun z => ndg.2.2 q (List.mem_singleton.mpr rfl) a m z.symm⟩) o'
    have h2' : fv.set j (f, V.ref q) = fv := by
      obtain ⟨l, e9⟩ := List.getElem?_eq_some_iff.mp h2
      rw [← e9]; exact List.set_getElem_self l
    rw [h2'] at q1
    obtain ⟨gp, r9, x9, y9⟩ := step (F' := F) (H' := upd H q u) (fv' := fv) (fd' := fd.set j (f, d')) (fi' := fp') (sub_updH r.sub nq nt) (fun _ _ z => z) np ndx ((upd_ne qp).trans hp) ((upd_ne qdx).trans hdx) q1 (q2.nodup_iff.mpr (h4.nodup_iff.mp ndfi)) (fun a m => .inl (h4.symm.subset (q2.subset m))) fun a o9 ho n1 n2 => ⟨rfl, (upd_ne fun (z : a = q) => n2 (by rw [z]; exact qfi)).trans ho⟩
    exact ⟨gp, r9, ⟨x9, fun a m => .inl ((y9 a m).elim id fun m => fin a (h4.symm.subset (q2.subset m)))⟩⟩
  cases h3 with
  | @dK _ q kvs ds fp3 nq hq ek rk =>
    obtain ⟨rk2, e0⟩ := rk.leafE
    subst e0
    refine ⟨p, dx, fv, q, s1, hp, hl, rfl, nq, fun z => pfi (z ▸ h4.symm.subset (List.mem_append_left _ (List.mem_singleton.mpr rfl))), fun ds0 z => ?_, fun ds0 z => (by cases z)⟩
    cases z
    exact ⟨kvs, hq, ek, rk2, fun kvs' ds' ek' rk' => go q (.dK kvs') (.dK ds') rfl nq (by intro _ z; cases z) (.dK nq upd_same ek' (ORs.ofReps rk')) rfl⟩
  | @dT _ q kvs ds fp3 nq hq ek rk =>
    obtain ⟨rk2, e0⟩ := rk.leafE
    subst e0
    refine ⟨p, dx, fv, q, s1, hp, hl, rfl, nq, fun z => pfi (z ▸ h4.symm.subset (List.mem_append_left _ (List.mem_singleton.mpr rfl))), fun ds0 z => (by cases z), fun ds0 z => ?_⟩
    cases z
    exact ⟨kvs, hq, ek, rk2, fun kvs' ds' ek' rk' => go q (.dT kvs') (.dT ds') rfl nq (by intro _ z; cases z) (.dT nq upd_same ek' (ORs.ofReps rk')) rfl⟩

def mFput (i j : Nat) (mc mv : ME) : MS := fun ρ => (mv ρ).bind fun v ρ1 => match own ρ1 i with
  | some o => (match fldD j o with
    | some q => (mc (ρ1.set i none)).bind fun k ρ2 => R.of (putD q.2 k v) ρ2 |>.bind fun d' ρ3 => .ok .nx (ρ3.set i (some (withF j q.1 d' o)))
    | none => .no)
  | none => .no
variable {rsh : Sh} {fx : Nat} {value : Expr} {tv : TE}
theorem OkX.wk {b : Bd} {F H : Hp} {g fp : List Addr} {σ : St} {e : Ex} {ρ' : DEnv} (h : OkX b F H fp σ e ρ') (s : ∀ a ∈ g, a ∈ fp) : OkX b F H g σ e ρ' := fun cls dx F' H' fp' r x ex => h cls dx F' H' fp' r (x.weak s) ex
theorem sv_fput (i j : Nat) {mc mv : ME} (hu : X.A.units + 1 < cLine) (cl : Cls X.K C) (na : NoAttr X.K C f) (hc : EV X ks W c .leaf tc mc) (hv : EV X ks W value .leaf tv mv) (hs : sf[j]? = some (f, .dic .leaf) := by rfl) (nd : (sf.map Prod.fst).Nodup := by decide) (hk : ks[i]? = some (.ins C sf) := by rfl) (hN : X.N[i]? = some y := by rfl)
    (hvi : Vis X.env.scope y := by first | exact Or.inl rfl | exact Or.inr (Or.inl rfl) | exact Or.inr (Or.inr rfl)) (hd : (y == ("__debug__" : Str)) = false := by decide) (hcd : (y == ("__classdict__" : Str)) = false := by decide)
    (hb : attributeBase (.Name y p) f X.env (eval (.Name y p) X.env) = eval (.Name y p) X.env := by rfl)
    (hsw : swapsWith value (some (.Subscript (.Attribute (.Name y p) f pos') c pos)) p3.line X.env = pure false := by rfl) : SV X ks W rsh fx (.Assign [.Subscript (.Attribute (.Name y p) f pos') c pos] value p3) (sDPut (tFld X.K (tVar i) f) tc tv) (mFput i j mc mv) := by
  refine ⟨ps_dput hu (pe_fld (pe_var hN hvi hd hcd) hb) hc.pe hv.pe hsw, fun ρ σ F H fp D r hok => ?_⟩
  unfold mFput at hok
  refine hv.sd.go r (Ok := OkS (bd X ks W) rsh fx F H fp σ D) hok (fun z => z) (fun _ _ z => z.x) fun w ρ1 v F1 H1 fp1 h1 r1 x1 p1 => ?_
  cases e1 : own ρ1 i with
  | none => rw [e1] at h1; exact (show False from h1).elim
  | some o =>
  rw [e1] at h1
  dsimp only at h1
  cases e2 : fldD j o with
  | none => rw [e2] at h1; exact (show False from h1).elim
  | some q =>
  rw [e2] at h1
  dsimp only at h1
  obtain ⟨p0, dx, fv, v0, f0, s1, hp, hl, ov⟩ := fld_of (d := q.2) r1 hk hs nd (by rw [e1, Option.bind_some, e2]; rfl)
  refine ⟨.ref p0, s1, p0, C, dx, fv, v0, rfl, hp, cl, na, hl, ?_⟩
  obtain ⟨w0, f1, g, s2, o1, rh, gin, back⟩ := r1.hide hk (getE e1)
  rw [s1] at s2
  cases s2
  have h1' := h1.ext x1 rfl
  refine hc.sd.go rh (Ok := OkS (bd X ks W) rsh fx F1 H1 fp1 σ D) h1' (fun z => z) (fun _ _ z => OkX.wk z.x gin) fun kd ρ2 u F2 H2 fp2 h2 r2 x2 p2 => ?_
  obtain ⟨o2, fk, fpn, rn, xn⟩ := back r2 x2
  have p1' := p1.mono (rh.same x2)
  cases e3 : putD q.2 kd w with
  | none => rw [e3] at h2; exact (show False from h2).elim
  | some d3 =>
  rw [e3] at h2
  have hi : i < ρ2.length := by
    have := (List.getElem?_eq_some_iff.mp hk).1
    rw [r2.sl.lens.1] at this; exact this
  have e4 : own (ρ2.set i (some o)) i = some o := by unfold own; rw [List.getElem?_set_self hi]; rfl
  obtain ⟨x', d'⟩ := q
  obtain ⟨p', dx', fv', q', s1', hp', hl', ex, nq, nqp, stK, stT⟩ := rn.fldK hk hs nd e4 e2
  subst ex
  rw [s1] at s1'
  cases s1'
  have pin : p0 ∈ f1 := by cases o1; exact List.mem_cons_self
  rw [(fk p0 pin).2, hp] at hp'
  cases hp'
  rw [hl] at hl'
  cases hl'
  simp only [List.set_set] at stK stT
  unfold putD at e3
  split at e3
  · rename_i kvs heq
    split at e3
    · rename_i cl0
      cases e5 : keyK kd with
      | none => rw [e5] at e3; cases e3
      | some qk =>
        rw [e5] at e3
        cases e3
        obtain ⟨kv, eH, ek, rk, step⟩ := stK kvs heq
        obtain ⟨gp, r3, x3⟩ := step _ _ (put_keys qk v w ek) (put_reps qk p1' ek rk)
        refine ⟨q', _, rfl, ?_, (h2.ext xn rfl) σ F2 _ gp r3 x3 rfl⟩
        rw [keyKE (F := F2) (H := F2) (.rep p2) e5]
        exact DPut.k eH (by rw [put_len qk v w ek, sizeLine_eq]; exact cl0)
    · cases e3
  · rename_i kvs heq
    split at e3
    · rename_i cl0
      cases e5 : keyT kd with
      | none => rw [e5] at e3; cases e3
      | some qk =>
        rw [e5] at e3
        cases e3
        obtain ⟨kv, eH, ek, rk, step⟩ := stT kvs heq
        obtain ⟨gp, r3, x3⟩ := step _ _ (put_keys qk v w ek) (put_reps qk p1' ek rk)
        obtain ⟨bb, b1, b2⟩ := keyTE r2.sub (.rep p2) e5
        refine ⟨q', _, rfl, ?_, (h2.ext xn rfl) σ F2 _ gp r3 x3 rfl⟩
        rw [b1]
        exact DPut.t eH b2 (by rw [put_len qk v w ek, sizeLine_eq]; exact cl0)
    · cases e3
  · cases e3
/-! ### self.f = v -/
def mFset (i j : Nat) (x : Str) (m : ME) : MS := fun ρ => (m ρ).bind fun d ρ1 => (R.of ((own ρ1 i).bind (putFd j x d)) ρ1).bind fun o ρ2 => .ok .nx (ρ2.set i (some o))
theorem sv_fset (i j : Nat) {m : ME} (cl : Cls X.K C) (na : NoAttr X.K C f) (hv : EV X ks W value s tv m) (hs : sf[j]? = some (f, s) := by rfl) (nd : (sf.map Prod.fst).Nodup := by decide) (hl : sf.length < 1000 := by decide) (hk : ks[i]? = some (.ins C sf) := by rfl) (hN : X.N[i]? = some y := by rfl)
    (hvi : Vis X.env.scope y := by first | exact Or.inl rfl | exact Or.inr (Or.inl rfl) | exact Or.inr (Or.inr rfl)) (hd : (y == ("__debug__" : Str)) = false := by decide) (hcd : (y == ("__classdict__" : Str)) = false := by decide)
    (hsw : swapsWith value (some (.Attribute (.Name y p) f pos')) p3.line X.env = pure false := by rfl) : SV X ks W rsh fx (.Assign [.Attribute (.Name y p) f pos'] value p3) (sFld X.K (tVar i) tv f) (mFset i j f m) := by
  refine ⟨ps_fld (pe_var hN hvi hd hcd) hv.pe hsw, fun ρ σ F H fp D r hok => ?_⟩
  unfold mFset at hok
  refine hv.sd ρ σ F H fp _ r ?_
  cases em : m ρ with
  | no => rw [em] at hok; exact (show False from hok).elim
  | ex x ρ1 => rw [em] at hok; exact hok.x
  | ok d ρ1 =>
  rw [em] at hok
  intro v F1 H1 fp1 fw r1 nd1 x1 o1
  have hok : OkS (bd X ks W) rsh fx F H fp σ D ((R.of ((own ρ1 i).bind (putFd j f d)) ρ1).bind fun o ρ2 => .ok .nx (ρ2.set i (some o))) := hok
  cases e1 : own ρ1 i with
  | none => rw [e1] at hok; exact (show False from hok).elim
  | some o =>
  cases e2 : putFd j f d o with
  | none => rw [e1, Option.bind_some, e2] at hok; exact (show False from hok).elim
  | some o' =>
  rw [e1, Option.bind_some, e2] at hok
  obtain ⟨c, fd, p0, dx, fv, fi, rfl, s1, np, ndx, hp, hdx, of, pfi, dxfi, pdx, ndfi, fin, pin, step⟩ := r1.inst hk (getE e1)
  obtain ⟨l1, l2⟩ := of.len
  refine ⟨.ref p0, s1, p0, C, dx, fv, rfl, hp, cl, na, by omega, ?_⟩
  have nda := List.nodup_append.mp nd1
  have fwn : ∀ a ∈ fw, F1 a = none ∧ a ∉ fp1 := fun a m => ⟨(o1.own a m).1, fun q => nda.2.2 a q a m rfl⟩
  have pfw : p0 ∉ fw := fun m => (fwn p0 m).2 pin
  have keep : ∀ a, a ≠ p0 → upd H1 p0 (.ins C dx (putF f v fv)) a = H1 a := fun a n => upd_ne n
  have sb : Sub F1 (upd H1 p0 (.ins C dx (putF f v fv))) := sub_updH r1.sub np (by intro _ z; cases z)
  have ow : OR X.K F1 (upd H1 p0 (.ins C dx (putF f v fv))) s v d fw := o1.frame (fun _ _ z => z) fun a m => ⟨(fwn a m).1, keep a fun z => pfw (z ▸ m)⟩
  have finish : ∀ {fd' : List (Str × VL.D)} {fi' : List Addr}, OF X.K F1 (upd H1 p0 (.ins C dx (putF f v fv))) sf (putF f v fv) fd' fi' → fi'.Nodup → (∀ a ∈ fi', a ∈ fi ∨ a ∈ fw) → OkS (bd X ks W) rsh fx F H fp σ D (.ok .nx (ρ1.set i (some (.ob c fd')))) → D.nx σ (upd H1 p0 (.ins C dx (putF f v fv))) := by
    intro fd' fi' of' nd' sub' ok'
    obtain ⟨gp, r9, k9, y9⟩ := step (F' := F1) (H' := upd H1 p0 (.ins C dx (putF f v fv))) sb (fun _ _ z => z) np ndx upd_same ((keep dx fun z => pdx z.symm).trans hdx) of' nd' (fun a m => (sub' a m).imp id fun m => (fwn a m).2) fun a o ho n1 _ => ⟨rfl, (keep a n1).trans ho⟩
    refine ok' σ F1 _ gp r9 (x1.trans ⟨fun a o ho n => k9 a o ho fun q => n (List.mem_append_left _ q), fun a m => .inl ?_⟩) rfl
    rcases y9 a m with q | q
    · exact List.mem_append_left _ q
    · rcases sub' a q with q | q
      · exact List.mem_append_left _ (fin a q)
      · exact List.mem_append_right _ q
  have ofH : OF X.K F1 (upd H1 p0 (.ins C dx (putF f v fv))) sf fv fd fi := of.frame (fun _ _ z => z) fun a m => ⟨(of.own a m).1, keep a fun z => pfi (z ▸ m)⟩
  unfold putFd at e2
  dsimp only at e2
  split at e2
  · rename_i lt
    cases e2
    obtain ⟨⟨x', d0⟩, e3⟩ : ∃ q, fd[j]? = some q := ⟨_, List.getElem?_eq_getElem lt⟩
    obtain ⟨s', v0, f0, g, h1, h2, h3, h4, h5⟩ := ofH.at_ e3
    rw [hs] at h1
    cases h1
    have ndg := List.nodup_append.mp (h4.nodup_iff.mp ndfi)
    obtain ⟨fp', q1, q2⟩ := h5 (F' := F1) (H' := upd H1 p0 (.ins C dx (putF f v fv))) (v' := v) (d' := d) (f' := fw) (fun _ _ z => z) (fun a m => ⟨(of.own a (h4.symm.subset (List.mem_append_right _ m))).1, rfl⟩) ow
    rw [← putF_at (of.nd nd) h2] at q1
    have gfi : ∀ a ∈ g, a ∈ fi := fun a m => h4.symm.subset (List.mem_append_right _ m)
    exact finish q1 (q2.nodup_iff.mpr (List.nodup_append.mpr ⟨nda.2.1, ndg.2.1, fun a m b q z => (fwn a m).2 (fin a (z ▸ gfi b q))⟩)) (fun a m => (List.mem_append.mp (q2.subset m)).elim .inr fun m => .inl (gfi a m)) hok
  · rename_i nlt
    split at e2
    · rename_i eq
      cases e2
      obtain ⟨fp', q1, q2⟩ := ofH.snoc ow (x := f) (by rw [← eq]; exact hs)
      have nf : f ∉ fv.map Prod.fst := by
        obtain ⟨n1, rr, n2⟩ := of.names
        rw [n1]
        intro m
        have hf : (sf.map Prod.fst)[j]? = some f := by rw [List.getElem?_map, hs]; rfl
        obtain ⟨k, hk', ek⟩ := List.getElem_of_mem m
        have h9 : (sf.map Prod.fst)[k]? = some f := by
          rw [n2, List.getElem?_append_left hk', List.getElem?_eq_getElem hk', ek]
        obtain ⟨a1, a2⟩ := List.getElem?_eq_some_iff.mp hf
        obtain ⟨b1, b2⟩ := List.getElem?_eq_some_iff.mp h9
        have : j = k := (List.getElem_inj nd).mp (a2.trans b2.symm)
        rw [List.length_map] at hk'
        omega
      rw [← putF_no nf] at q1
      exact finish q1 (q2.nodup_iff.mpr (List.nodup_append.mpr ⟨nda.2.1, ndfi, fun a m b q z => (fwn a m).2 (fin a (z ▸ q))⟩)) (fun a m => (List.mem_append.mp (q2.subset m)).elim .inr .inl) hok
    · cases e2
end
end VL
set_option maxHeartbeats 1000000
/-! V49: methods of an owned instance, instances made. -/
namespace VL
open PySem PySem.Spec L2
/-- a method's promise, by class and name -/
structure Mlp (P : Program) (w : World) (K : PySem.W.Frag) (mg : Str → Option Value) (base : Heap) (CX : CXT) (k : Nat) (C : Addr) (m : Str) (n : Nat) (psh : List Sh) (fx : Nat) (rsh : Sh) (g : List D → R D) : Prop where
  ex : ∃ f fd ps, FnG P w K mg base CX k f fd ps (spV K mg n psh fx rsh g) ∧ Meth K C m f ∧ Binds K fd ps []
structure Ml (X : Cx) (CX : CXT) (k : Nat) (C : Addr) (m : Str) (n : Nat) (psh : List Sh) (fx : Nat) (rsh : Sh) (g : List D → R D) : Prop where
  ex : ∃ f fd ps, FnG X.prog X.w X.K X.mg X.base CX k f fd ps (spV X.K X.mg n psh fx rsh g) ∧ Meth X.K C m f ∧ Binds X.K fd ps []
theorem Mlp.ml {P : Program} {w : World} {K : PySem.W.Frag} {mg : Str → Option Value} {base : Heap} {CX : CXT} {j k : Nat} {C : Addr} {m : Str} {n : Nat} {psh : List Sh} {fx : Nat} {rsh : Sh} {g : List D → R D} (c : Mlp P w K mg base CX j C m n psh fx rsh g) (h : j ≤ k)
    {X : Cx} (h1 : X.prog = P) (h2 : X.w = w) (h3 : X.K = K) (h4 : X.mg = mg) (h5 : X.base = base) : Ml X CX k C m n psh fx rsh g := by
  subst h1 h2 h3 h4 h5
  obtain ⟨f, fd, ps, G, hm, hb⟩ := c.ex
  exact ⟨f, fd, ps, G.mono h, hm, hb⟩
theorem mlp_of {P : Program} {w : World} {K : PySem.W.Frag} {mg : Str → Option Value} {base : Heap} {CX : CXT} {k n : Nat} {f C : Addr} {fd : FuncData} {ps : List Str} {psh : List Sh} {fx : Nat} {rsh : Sh} {g : List D → R D} {m : Str}
    (G : FnG P w K mg base CX k f fd ps (spV K mg n psh fx rsh g)) (hm : Meth K C m f) (hb : Binds K fd ps []) : Mlp P w K mg base CX k C m n psh fx rsh g := ⟨f, fd, ps, G, hm, hb⟩
def tMethG (C : Addr) (m : Str) (sp : Sp) (E : St → XK) (ta : TE) (t : TA) : TE := fun σ H Q => ta σ H fun x H1 => ∃ a dx fs, x = .ref a ∧ H1 a = some (.ins C dx fs) ∧ fs.lookup m = none ∧ t σ H1 fun vs H2 => sp (x :: vs) H2 Q (E σ)
def tMakeG (C : Addr) (sp : Sp) (E : St → XK) (t : TA) : TE := fun σ H Q => t σ H fun vs H1 => ∀ x dx, H1 x = none → H1 dx = none → dx ≠ x →
  sp (.ref x :: vs) (upd (upd H1 dx (.own x)) x (.ins C dx [])) (fun v H2 => v = .non ∧ Q (.ref x) H2) (E σ)
theorem guards_make (A : Around) (C : Addr) (us : List Value) : (A.under (.builtin "type.__call__" ⟨.ref C :: us, []⟩)).guards = A.guards := by
  rfl
section
variable {X : Cx} {CX : CXT} {k : Nat} {f C : Addr} {fd : FuncData} {ps : List Str} {sp : Sp} {x m : Str} {p pos apos : Pos} {o e : Expr} {es : List Expr} {ta : TE} {t : TA} {E : St → XK}
theorem pe_methG {pl : Sem Bool} (he : PE X o ta) (c : Cls X.K C) (hm : Meth X.K C m f) (G : FnG X.prog X.w X.K X.mg X.base CX k f fd ps sp) (hr : Room k X.A) (hgd : X.A.guards = some []) (hb : Binds X.K fd ps []) (hx : ∀ σ, PassesAt CX X σ (E σ)) (ha : PA X (e :: es) t)
    (hst : starEach (e :: es) X.env = (false, eval e X.env) :: starEach es X.env) (hpl : (backTo pos (starEach es X.env)).any (·.1) = false)
    (ht : eval (.Call (.Attribute o m apos) (e :: es) [] pos) X.env = (do
      let ov ← eval o X.env
      standAt apos.atName
      let (f, first) ← holding [ov] (getMethod ov m pl)
      callWith pos f first (backTo pos (starEach (e :: es) X.env)) (backToKw pos (keywordEach [] X.env)))) :
    PE X (.Call (.Attribute o m apos) (e :: es) [] pos) (tMethG C m sp E ta t) := by
  refine ⟨fun pins s σ H Q I h => ?_⟩
  refine PySem.W.methodCall_KW (pl := pl) (thn (he.run pins s σ H _ I h) fun u s1 ⟨x, H1, I1, rx, a, dx, fs, ex, ea, l, q⟩ => ?_) ht
  subst ex
  obtain rfl : u = Value.ref a := rx
  refine getmeth_ok I1 ea c hm l ?_
  refine PySem.W.callWith_K (first := [.ref a]) (h₀ := X.base) I.ok.mod.kin hm.kp (thn (ha.run pos pins s1 σ H1 _ I1 q) fun us s2 ⟨vs, H2, I2, r, q2⟩ => ⟨I2.kIn, ?_⟩) hst hpl
  exact run_fng (us := .ref a :: us) (vs := .ref a :: vs) G hr hgd hb (hx σ) I2 (.cons rfl r) q2
theorem pe_methG0 {pl : Sem Bool} (he : PE X o ta) (c : Cls X.K C) (hm : Meth X.K C m f) (G : FnG X.prog X.w X.K X.mg X.base CX k f fd ps sp) (hr : Room k X.A) (hgd : X.A.guards = some []) (hb : Binds X.K fd ps []) (hx : ∀ σ, PassesAt CX X σ (E σ))
    (ht : eval (.Call (.Attribute o m apos) [] [] pos) X.env = (do
      let ov ← eval o X.env
      standAt apos.atName
      let (f, first) ← holding [ov] (getMethod ov m pl)
      callWith pos f first (backTo pos (starEach [] X.env)) (backToKw pos (keywordEach [] X.env)))) :
    PE X (.Call (.Attribute o m apos) [] [] pos) (tMethG C m sp E ta tNil) := by
  refine ⟨fun pins s σ H Q I h => ?_⟩
  refine PySem.W.methodCall_KW (pl := pl) (thn (he.run pins s σ H _ I h) fun u s1 ⟨x, H1, I1, rx, a, dx, fs, ex, ea, l, q⟩ => ?_) ht
  subst ex
  obtain rfl : u = Value.ref a := rx
  refine getmeth_ok I1 ea c hm l ?_
  exact PySem.W.callWith_K0 (first := [.ref a]) I1.kIn hm.kp (run_fng (us := [.ref a]) (vs := [.ref a]) G hr hgd hb (hx σ) I1 (.cons rfl .nil) q)
theorem run_makeG {E : XK} {pins : List (Addr × Obj)} {σ : St} {H : Hp} {s : Shared} {Q : VK} {us : List Value} {vs : List V} (M : Mk X.K C f) (G : FnG X.prog X.w X.K X.mg X.base CX k f fd ps sp) (hr : Room (k + 1) X.A) (hgd : X.A.guards = some []) (hb : Binds X.K fd ps [])
    (hx : PassesAt CX X σ E) (I : Inv X pins σ H s) (r : Vals vs us)
    (h : ∀ x dx, H x = none → H dx = none → dx ≠ x → sp (.ref x :: vs) (upd (upd H dx (.own x)) x (.ins C dx [])) (fun v H2 => v = .non ∧ Q (.ref x) H2) E) :
    wpAny (model X.prog X.w) X.A (call (.ref C) us) (EP X pins σ Q) X.xe s := by
  have hq := h (s.heap.objs.size + 1) s.heap.objs.size (I.hok.fresh (Nat.le_succ _)) (I.hok.fresh (Nat.le_refl _)) (Nat.ne_of_lt (Nat.lt_succ_self _))
  have I2 := Inv.made (C := C) I
  have r2 : Vals (V.ref (s.heap.objs.size + 1) :: vs) (Value.ref (s.heap.objs.size + 1) :: us) := .cons rfl r
  have hl : (Value.ref (s.heap.objs.size + 1) :: us ++ ([] : List Value)).length = ps.length := by
    rw [List.append_nil, ← r2.length]; exact G.len _ _ _ _ hq
  have hb' := hb { s with heap := (s.heap.push PySem.W.emptyDict).push (PySem.W.instObj C s.heap.objs.size) } (Value.ref (s.heap.objs.size + 1) :: us) I2.kIn hl
  rw [List.append_nil] at hb'
  refine wpAny_call (make_map (f := f) I.kIn M.makes M.init (beq_iff_eq.mp M.fn) (codeAny_mono (G.run _ X.stack _ _ ⟨Value.ref (s.heap.objs.size + 1) :: us, []⟩ (Value.ref (s.heap.objs.size + 1) :: us) _ _ E (hr.make C us [])
    ((guards_make X.A C us).trans hgd) (I2.env0.make C us []) hb' r2 hq) fun r s' hq' => ?_))
  match r, hq' with
  | .error e, hq' => exact hx pins _ _ e s' I2 hq'
  | .ok (.ret u), hq' =>
    obtain ⟨v, H', I3, rv, ev, q3⟩ := I2.after hq'
    subst ev
    exact ⟨rv, ⟨V.ref (s.heap.objs.size + 1), H', I3, rfl, q3⟩⟩
  | .ok .next, hq' => exact False.elim hq'
  | .ok .brk, hq' => exact False.elim hq'
  | .ok .cont, hq' => exact False.elim hq'
theorem pe_makeG (M : Mk X.K C f) (G : FnG X.prog X.w X.K X.mg X.base CX k f fd ps sp) (hr : Room (k + 1) X.A) (hgd : X.A.guards = some []) (hg : Gl X x) (hm : X.mg x = some (.ref C)) (hb : Binds X.K fd ps []) (hx : ∀ σ, PassesAt CX X σ (E σ))
    (ha : PA X (e :: es) t) (hdb : (x == ("__debug__" : Str)) = false) (he : starEach (e :: es) X.env = (false, eval e X.env) :: starEach es X.env) (hpl : (backTo pos (starEach es X.env)).any (·.1) = false) :
    PE X (.Call (.Name x p) (e :: es) [] pos) (tMakeG C sp E t) := by
  refine ⟨fun pins s σ H Q I h => ?_⟩
  refine wpAny_Call_Name_kw (ld_glob I hg hm ?_ hdb)
  refine PySem.W.callWith_K (h₀ := X.base) I.ok.mod.kin M.kp (thn (ha.run pos pins s σ H _ I h) fun us s1 ⟨vs, H1, I1, r, q⟩ => ⟨I1.kIn, ?_⟩) he hpl
  exact run_makeG M G hr hgd hb (hx σ) I1 r q
end
end VL
set_option maxHeartbeats 1000000
/-! V50: methods called, instances made: by data. -/
namespace VL
open PySem PySem.Spec L2
section
variable {X : Cx} {CX : CXT} {k n : Nat} {y m : Str} {g : List D → R D} {ks : List Sh} {W : WX} {e : Expr} {es : List Expr} {p p' pos apos : Pos} {t : TA} {ma : MA} {rsh : Sh} {C : Addr} {sf : List (Str × Sh)}
theorem snd_meth {b : Bd} {i : Nat} (hW : b.W = W) (hk : b.ks[i]? = some (.ins C sf)) (nm : m ∉ sf.map Prod.fst) (ha : SndA b t ma) :
    SndE b rsh (tMethG C m (spV b.K b.mg (n + 1) (.ins C sf :: leaves n) 1 rsh g) (WE W) (tVar i) t) (mCall1 i n g ma) := by
  intro ρ σ F H fp Q r hok
  have h0 := snd_call1 (g := g) (n := n) (rsh := rsh) hW hk ha ρ σ F H fp Q r hok
  unfold mCall1 at hok
  cases e0 : own ρ i with
  | none => rw [e0] at hok; exact (show False from hok).elim
  | some dd =>
    obtain ⟨c, fd, q, dx, fv, fi, rfl, s1, np, ndx, hp, hdx, of, _⟩ := r.inst hk (getE e0)
    obtain ⟨v, s2, h2⟩ := h0
    rw [s1] at s2
    cases s2
    obtain ⟨n1, rr, n2⟩ := of.names
    refine ⟨.ref q, s1, q, dx, fv, rfl, hp, fv_no fun z => nm ?_, h2⟩
    rw [n1] at z
    rw [n2]
    exact List.mem_append_left _ z
theorem ev_meth (i : Nat) (cl : Cls X.K C) (c : Ml X CX k C m (n + 1) (.ins C sf :: leaves n) 1 rsh g) (hx : ∀ σ, PassesAt CX X σ (WE W σ)) (hr : Room k X.A) (hgd : X.A.guards = some []) (ha : EA X ks W (e :: es) t ma) (nm : m ∉ sf.map Prod.fst := by decide) (hk : ks[i]? = some (.ins C sf) := by rfl) (hN : X.N[i]? = some y := by rfl)
    (hv : Vis X.env.scope y := by first | exact Or.inl rfl | exact Or.inr (Or.inl rfl) | exact Or.inr (Or.inr rfl)) (hd : (y == ("__debug__" : Str)) = false := by decide) (hcd : (y == ("__classdict__" : Str)) = false := by decide) {pl : Sem Bool}
    (hst : starEach (e :: es) X.env = (false, eval e X.env) :: starEach es X.env := by rfl) (hpl : (backTo pos (starEach es X.env)).any (·.1) = false := by rfl)
    (ht : eval (.Call (.Attribute (.Name y p') m apos) (e :: es) [] pos) X.env = (do
      let ov ← eval (.Name y p') X.env
      standAt apos.atName
      let (f, first) ← holding [ov] (getMethod ov m pl)
      callWith pos f first (backTo pos (starEach (e :: es) X.env)) (backToKw pos (keywordEach [] X.env))) := by rfl) :
    EV X ks W (.Call (.Attribute (.Name y p') m apos) (e :: es) [] pos) rsh (tMethG C m (spV X.K X.mg (n + 1) (.ins C sf :: leaves n) 1 rsh g) (WE W) (tVar i) t) (mCall1 i n g ma) := by
  obtain ⟨f, fd, ps, G, hm, hb⟩ := c.ex
  exact ⟨pe_methG (pe_var hN hv hd hcd) cl hm G hr hgd hb hx ha.pe hst hpl ht, snd_meth (b := bd X ks W) rfl hk nm ha.sd⟩
theorem ev_meth0 (i : Nat) (cl : Cls X.K C) (c : Ml X CX k C m 1 [.ins C sf] 1 rsh g) (hx : ∀ σ, PassesAt CX X σ (WE W σ)) (hr : Room k X.A) (hgd : X.A.guards = some []) (nm : m ∉ sf.map Prod.fst := by decide) (hk : ks[i]? = some (.ins C sf) := by rfl) (hN : X.N[i]? = some y := by rfl)
    (hv : Vis X.env.scope y := by first | exact Or.inl rfl | exact Or.inr (Or.inl rfl) | exact Or.inr (Or.inr rfl)) (hd : (y == ("__debug__" : Str)) = false := by decide) (hcd : (y == ("__classdict__" : Str)) = false := by decide) {pl : Sem Bool}
    (ht : eval (.Call (.Attribute (.Name y p') m apos) [] [] pos) X.env = (do
      let ov ← eval (.Name y p') X.env
      standAt apos.atName
      let (f, first) ← holding [ov] (getMethod ov m pl)
      callWith pos f first (backTo pos (starEach [] X.env)) (backToKw pos (keywordEach [] X.env))) := by rfl) :
    EV X ks W (.Call (.Attribute (.Name y p') m apos) [] [] pos) rsh (tMethG C m (spV X.K X.mg 1 [.ins C sf] 1 rsh g) (WE W) (tVar i) tNil) (mCall1 i 0 g mNil) := by
  obtain ⟨f, fd, ps, G, hm, hb⟩ := c.ex
  exact ⟨pe_methG0 (pe_var hN hv hd hcd) cl hm G hr hgd hb hx ht, snd_meth (b := bd X ks W) (n := 0) rfl hk nm ea_nil.sd⟩
/-- a new instance -/
def mNew (c : Str) (n : Nat) (g : List D → R D) (ma : MA) : ME := fun ρ => (ma ρ).bind fun ds ρ1 => if ds.length = n then (match g (.ob c [] :: ds) with
  | .ok .non [some d1] => .ok d1 ρ1
  | _ => .no) else .no
theorem snd_new {b : Bd} {c : Str} (hW : b.W = W) (ha : SndA b t ma) : SndE b (.ins C sf) (tMakeG C (spV b.K b.mg (n + 1) (.ins C sf :: leaves n) 1 .leaf g) (WE W) t) (mNew c n g ma) := by
  intro ρ σ F H fp Q r hok
  unfold mNew at hok
  refine ha.go r (Ok := OkE b (.ins C sf) F H fp σ Q) hok (fun z => z) (fun _ _ z => z) fun ds ρ1 vs F1 H1 fp1 h1 r1 x1 p1 => ?_
  by_cases hn : ds.length = n
  · rw [if_pos hn] at h1
    have h2 := OkE.ext x1 h1
    intro x dx nx ndx ne
    have F1x := sub_none r1.sub nx
    have F1dx := sub_none r1.sub ndx
    obtain ⟨H2, eH⟩ : ∃ H2, H2 = upd (upd H1 dx (.own x)) x (.ins C dx []) := ⟨_, rfl⟩
    rw [← eH]
    have ex : H2 x = some (.ins C dx []) := by rw [eH]; exact upd_same
    have edx : H2 dx = some (.own x) := by rw [eH, upd_ne ne]; exact upd_same
    have eo : ∀ a, a ≠ x → a ≠ dx → H2 a = H1 a := fun a n1 n2 => by rw [eH, upd_ne n1, upd_ne n2]
    have sb : Sub F1 H2 := by
      rw [eH]
      exact sub_updH (sub_updH r1.sub F1dx (by intro _ z; cases z)) F1x (by intro _ z; cases z)
    have rl : RelL b.K F1 H2 (.ins C sf :: leaves n) (some (.ob c []) :: ds.map some) (some (.ref x) :: vs.map some) ([x, dx] ++ []) := .som (.ins F1x F1dx ex edx .nil) (by rw [← hn]; exact relL_leaves p1)
    rw [List.append_nil] at rl
    refine ⟨by rw [List.length_cons, p1.length, hn], F1, [x, dx], .ob c [] :: ds, ⟨sb, List.nodup_cons.mpr ⟨fun z => ne (List.mem_singleton.mp z).symm, by simp⟩, rl⟩, ?_⟩
    cases eg : g (.ob c [] :: ds) with
    | no => rw [eg] at h2; exact (show False from h2).elim
    | ex y ρ' => rw [eg] at h2; exact (show False from h2).elim
    | ok d ρ' =>
      rw [eg] at h2
      intro v F' H' fp' fv r' nd xx o
      obtain ⟨rv, ef⟩ := o.leafE
      subst ef
      split at h2
      · rename_i d1 _ heq
        cases heq
        rename_i e2
        have r0 := r'.sl
        rw [List.take_succ_cons, List.take_zero, List.take_succ_cons, List.take_zero] at r0
        cases r0 with
        | @som _ _ _ _ _ _ fz fz' oz rz =>
          cases rz
          rw [List.append_nil] at xx nd
          have kp : ∀ a o, H1 a = some o → H' a = some o ∧ F' a = F1 a := fun a o ho => by
            have n1 : a ≠ x := fun z => by rw [z, nx] at ho; cases ho
            have n2 : a ≠ dx := fun z => by rw [z, ndx] at ho; cases ho
            exact xx.keep a o ((eo a n1 n2).trans ho) fun m => by
              rcases List.mem_cons.mp m with z | m
              · exact n1 z
              · exact n2 (List.mem_singleton.mp m)
          have fzn : ∀ a ∈ fz, H1 a = none := fun a m => by
            rcases xx.fr a (List.mem_append_left _ m) with z | z
            · rcases List.mem_cons.mp z with rfl | z
              · exact nx
              · rw [List.mem_singleton.mp z]; exact ndx
            · by_cases n1 : a = x
              · rw [n1]; exact nx
              · by_cases n2 : a = dx
                · rw [n2]; exact ndx
                · rw [← eo a n1 n2]; exact z
          have al : Alc F1 H1 F' H' := ⟨r'.sub, kp⟩
          rw [List.append_nil] at nd
          obtain ⟨r2, nd2, x2⟩ := al.rel (fv := fz) r1 fzn nd
          refine ⟨by cases rv; rfl, h2 (.ref x) F' H' fp1 fz r2 nd2 x2 oz⟩
      · exact (show False from h2).elim
  · rw [if_neg hn] at h1; exact (show False from h1).elim
theorem ev_new {c : Str} {f : Addr} (M : Mk X.K C f) (G : ∃ fd ps, FnG X.prog X.w X.K X.mg X.base CX k f fd ps (spV X.K X.mg (n + 1) (.ins C sf :: leaves n) 1 .leaf g) ∧ Binds X.K fd ps []) (hx : ∀ σ, PassesAt CX X σ (WE W σ)) (hr : Room (k + 1) X.A) (hgd : X.A.guards = some []) (hm : X.mg y = some (.ref C)) (ha : EA X ks W (e :: es) t ma) (hg : Gl X y := by rfl) (hdb : (y == ("__debug__" : Str)) = false := by decide)
    (he : starEach (e :: es) X.env = (false, eval e X.env) :: starEach es X.env := by rfl) (hpl : (backTo pos (starEach es X.env)).any (·.1) = false := by rfl) : EV X ks W (.Call (.Name y p) (e :: es) [] pos) (.ins C sf) (tMakeG C (spV X.K X.mg (n + 1) (.ins C sf :: leaves n) 1 .leaf g) (WE W) t) (mNew c n g ma) := by
  obtain ⟨fd, ps, G, hb⟩ := G
  exact ⟨pe_makeG M G hr hgd hg hm hb hx ha.pe hdb he hpl, snd_new (b := bd X ks W) rfl ha.sd⟩
end
end VL
/-! V51: the rules of instances with the module's part named; a key and a tuple put together. -/
namespace VL
open PySem PySem.Spec L2
/-- the def that makes an instance ready -/
structure Nlp (P : Program) (w : World) (K : PySem.W.Frag) (mg : Str → Option Value) (base : Heap) (CX : CXT) (k : Nat) (f : Addr) (n : Nat) (psh : List Sh) (fx : Nat) (rsh : Sh) (g : List D → R D) : Prop where
  ex : ∃ fd ps, FnG P w K mg base CX k f fd ps (spV K mg n psh fx rsh g) ∧ Binds K fd ps []
theorem nlp_of {P : Program} {w : World} {K : PySem.W.Frag} {mg : Str → Option Value} {base : Heap} {CX : CXT} {k n : Nat} {f : Addr} {fd : FuncData} {ps : List Str} {psh : List Sh} {fx : Nat} {rsh : Sh} {g : List D → R D}
    (G : FnG P w K mg base CX k f fd ps (spV K mg n psh fx rsh g)) (hb : Binds K fd ps []) : Nlp P w K mg base CX k f n psh fx rsh g := ⟨fd, ps, G, hb⟩
theorem Nlp.nl {P : Program} {w : World} {K : PySem.W.Frag} {mg : Str → Option Value} {base : Heap} {CX : CXT} {j k n : Nat} {f : Addr} {psh : List Sh} {fx : Nat} {rsh : Sh} {g : List D → R D} (c : Nlp P w K mg base CX j f n psh fx rsh g) (h : j ≤ k)
    {X : Cx} (h1 : X.prog = P) (h2 : X.w = w) (h3 : X.K = K) (h4 : X.mg = mg) (h5 : X.base = base) : ∃ fd ps, FnG X.prog X.w X.K X.mg X.base CX k f fd ps (spV X.K X.mg n psh fx rsh g) ∧ Binds X.K fd ps [] := by
  subst h1 h2 h3 h4 h5
  obtain ⟨fd, ps, G, hb⟩ := c.ex
  exact ⟨fd, ps, G.mono h, hb⟩
section
variable {X : Cx} {CX : CXT} {k n : Nat} {y m f : Str} {g : List D → R D} {ks : List Sh} {W : WX} {e c : Expr} {es : List Expr} {p p' pos pos' apos : Pos} {t : TA} {tc : TE} {ma : MA} {mc : ME} {rsh s sh : Sh} {C : Addr} {sf : List (Str × Sh)} (K : PySem.W.Frag) (hK : X.K = K)
include hK
theorem kv_fldO (i j : Nat) (cl : Cls K C) (na : NoAttr K C f) (hs : sf[j]? = some (f, .leaf) := by rfl) (nd : (sf.map Prod.fst).Nodup := by decide) (hk : ks[i]? = some (.ins C sf) := by rfl) (hN : X.N[i]? = some y := by rfl)
    (hvi : Vis X.env.scope y := by first | exact Or.inl rfl | exact Or.inr (Or.inl rfl) | exact Or.inr (Or.inr rfl)) (hd : (y == ("__debug__" : Str)) = false := by decide) (hcd : (y == ("__classdict__" : Str)) = false := by decide)
    (hb : attributeBase (.Name y p) f X.env (eval (.Name y p) X.env) = eval (.Name y p) X.env := by rfl) : EV X ks W (.Attribute (.Name y p) f pos) .leaf (tFld K (tVar i) f) (mFd i j) := by
  subst hK; exact ev_fldO i j cl na hs nd hk hN hvi hd hcd hb
theorem kl_fld (i j : Nat) (cl : Cls K C) (na : NoAttr K C f) (hsh : s = .leaf ∨ s = .lst .leaf ∨ s = .dic .leaf) (hs : sf[j]? = some (f, s) := by rfl) (nd : (sf.map Prod.fst).Nodup := by decide) (hk : ks[i]? = some (.ins C sf) := by rfl) (hN : X.N[i]? = some y := by rfl)
    (hvi : Vis X.env.scope y := by first | exact Or.inl rfl | exact Or.inr (Or.inl rfl) | exact Or.inr (Or.inr rfl)) (hd : (y == ("__debug__" : Str)) = false := by decide) (hcd : (y == ("__classdict__" : Str)) = false := by decide)
    (hb : attributeBase (.Name y p) f X.env (eval (.Name y p) X.env) = eval (.Name y p) X.env := by rfl) : EL X ks W (.Attribute (.Name y p) f pos) (tFld K (tVar i) f) (mFd i j) := by
  subst hK; exact el_fld i j cl na hsh hs nd hk hN hvi hd hcd hb
theorem kv_fix (i j : Nat) {r : R2} (ho : IxR X r) (hop : Op2 K sh r ixD) (cl : Cls K C) (na : NoAttr K C f) (hc : EV X ks W c .leaf tc mc) (hsh : s = .leaf ∨ s = .lst .leaf ∨ s = .dic .leaf) (hs : sf[j]? = some (f, s) := by rfl) (nd : (sf.map Prod.fst).Nodup := by decide) (hk : ks[i]? = some (.ins C sf) := by rfl) (hN : X.N[i]? = some y := by rfl)
    (hvi : Vis X.env.scope y := by first | exact Or.inl rfl | exact Or.inr (Or.inl rfl) | exact Or.inr (Or.inr rfl)) (hd : (y == ("__debug__" : Str)) = false := by decide) (hcd : (y == ("__classdict__" : Str)) = false := by decide)
    (hb : attributeBase (.Name y p) f X.env (eval (.Name y p) X.env) = eval (.Name y p) X.env := by rfl) (hx : PlainIx c := by exact fun _ _ => rfl) : EV X ks W (.Subscript (.Attribute (.Name y p) f pos) c pos') sh (tOp r (tFld K (tVar i) f) tc) (mFix i j mc) := by
  subst hK; exact ev_fix i j ho hop cl na hc hsh hs nd hk hN hvi hd hcd hb hx
theorem kv_meth (mg : Str → Option Value) (hmg : X.mg = mg) (i : Nat) (cl : Cls K C) (c : Ml X CX k C m (n + 1) (.ins C sf :: leaves n) 1 rsh g) (hx : ∀ σ, PassesAt CX X σ (WE W σ)) (hr : Room k X.A) (hgd : X.A.guards = some []) (ha : EA X ks W (e :: es) t ma) (nm : m ∉ sf.map Prod.fst := by decide) (hk : ks[i]? = some (.ins C sf) := by rfl) (hN : X.N[i]? = some y := by rfl)
    (hv : Vis X.env.scope y := by first | exact Or.inl rfl | exact Or.inr (Or.inl rfl) | exact Or.inr (Or.inr rfl)) (hd : (y == ("__debug__" : Str)) = false := by decide) (hcd : (y == ("__classdict__" : Str)) = false := by decide) {pl : Sem Bool}
    (hst : starEach (e :: es) X.env = (false, eval e X.env) :: starEach es X.env := by rfl) (hpl : (backTo pos (starEach es X.env)).any (·.1) = false := by rfl)
    (ht : eval (.Call (.Attribute (.Name y p') m apos) (e :: es) [] pos) X.env = (do
      let ov ← eval (.Name y p') X.env
      standAt apos.atName
      let (f, first) ← holding [ov] (getMethod ov m pl)
      callWith pos f first (backTo pos (starEach (e :: es) X.env)) (backToKw pos (keywordEach [] X.env))) := by rfl) :
    EV X ks W (.Call (.Attribute (.Name y p') m apos) (e :: es) [] pos) rsh (tMethG C m (spV K mg (n + 1) (.ins C sf :: leaves n) 1 rsh g) (WE W) (tVar i) t) (mCall1 i n g ma) := by
  subst hK hmg; exact ev_meth i cl c hx hr hgd ha nm hk hN hv hd hcd hst hpl ht
theorem kv_meth0 (mg : Str → Option Value) (hmg : X.mg = mg) (i : Nat) (cl : Cls K C) (c : Ml X CX k C m 1 [.ins C sf] 1 rsh g) (hx : ∀ σ, PassesAt CX X σ (WE W σ)) (hr : Room k X.A) (hgd : X.A.guards = some []) (nm : m ∉ sf.map Prod.fst := by decide) (hk : ks[i]? = some (.ins C sf) := by rfl) (hN : X.N[i]? = some y := by rfl)
    (hv : Vis X.env.scope y := by first | exact Or.inl rfl | exact Or.inr (Or.inl rfl) | exact Or.inr (Or.inr rfl)) (hd : (y == ("__debug__" : Str)) = false := by decide) (hcd : (y == ("__classdict__" : Str)) = false := by decide) {pl : Sem Bool}
    (ht : eval (.Call (.Attribute (.Name y p') m apos) [] [] pos) X.env = (do
      let ov ← eval (.Name y p') X.env
      standAt apos.atName
      let (f, first) ← holding [ov] (getMethod ov m pl)
      callWith pos f first (backTo pos (starEach [] X.env)) (backToKw pos (keywordEach [] X.env))) := by rfl) :
    EV X ks W (.Call (.Attribute (.Name y p') m apos) [] [] pos) rsh (tMethG C m (spV K mg 1 [.ins C sf] 1 rsh g) (WE W) (tVar i) tNil) (mCall1 i 0 g mNil) := by
  subst hK hmg; exact ev_meth0 i cl c hx hr hgd nm hk hN hv hd hcd ht
end
/-! ### a key and a tuple -/
end VL
/-! V52: making and changing instances, with the module's part named. -/
namespace VL
open PySem PySem.Spec L2
section
variable {X : Cx} {CX : CXT} {k n : Nat} {y m f : Str} {g : List D → R D} {ks : List Sh} {W : WX} {e c value : Expr} {es : List Expr} {p p' p3 pos pos' apos : Pos} {t : TA} {ta tc tv : TE} {ma : MA} {mc mv : ME} {rsh s sh : Sh} {fx : Nat} {C : Addr} {sf : List (Str × Sh)} (K : PySem.W.Frag) (hK : X.K = K)
include hK
theorem kv_new (mg : Str → Option Value) (hmg : X.mg = mg) {c : Str} {f : Addr} (M : Mk K C f) (G : ∃ fd ps, FnG X.prog X.w X.K X.mg X.base CX k f fd ps (spV X.K X.mg (n + 1) (.ins C sf :: leaves n) 1 .leaf g) ∧ Binds X.K fd ps []) (hx : ∀ σ, PassesAt CX X σ (WE W σ)) (hr : Room (k + 1) X.A) (hgd : X.A.guards = some []) (hm : mg y = some (.ref C)) (ha : EA X ks W (e :: es) t ma) (hg : Gl X y := by rfl) (hdb : (y == ("__debug__" : Str)) = false := by decide)
    (he : starEach (e :: es) X.env = (false, eval e X.env) :: starEach es X.env := by rfl) (hpl : (backTo pos (starEach es X.env)).any (·.1) = false := by rfl) : EV X ks W (.Call (.Name y p) (e :: es) [] pos) (.ins C sf) (tMakeG C (spV K mg (n + 1) (.ins C sf :: leaves n) 1 .leaf g) (WE W) t) (mNew c n g ma) := by
  subst hK hmg; exact ev_new M G hx hr hgd hm ha hg hdb he hpl
theorem kv_fput (i j : Nat) {mc mv : ME} (hu : X.A.units + 1 < cLine) (cl : Cls K C) (na : NoAttr K C f) (hc : EV X ks W c .leaf tc mc) (hv : EV X ks W value .leaf tv mv) (hs : sf[j]? = some (f, .dic .leaf) := by rfl) (nd : (sf.map Prod.fst).Nodup := by decide) (hk : ks[i]? = some (.ins C sf) := by rfl) (hN : X.N[i]? = some y := by rfl)
    (hvi : Vis X.env.scope y := by first | exact Or.inl rfl | exact Or.inr (Or.inl rfl) | exact Or.inr (Or.inr rfl)) (hd : (y == ("__debug__" : Str)) = false := by decide) (hcd : (y == ("__classdict__" : Str)) = false := by decide)
    (hb : attributeBase (.Name y p) f X.env (eval (.Name y p) X.env) = eval (.Name y p) X.env := by rfl)
    (hsw : swapsWith value (some (.Subscript (.Attribute (.Name y p) f pos') c pos)) p3.line X.env = pure false := by rfl) : SV X ks W rsh fx (.Assign [.Subscript (.Attribute (.Name y p) f pos') c pos] value p3) (sDPut (tFld K (tVar i) f) tc tv) (mFput i j mc mv) := by
  subst hK; exact sv_fput i j hu cl na hc hv hs nd hk hN hvi hd hcd hb hsw
theorem kv_fset (i j : Nat) {m : ME} (cl : Cls K C) (na : NoAttr K C f) (hv : EV X ks W value s tv m) (hs : sf[j]? = some (f, s) := by rfl) (nd : (sf.map Prod.fst).Nodup := by decide) (hl : sf.length < 1000 := by decide) (hk : ks[i]? = some (.ins C sf) := by rfl) (hN : X.N[i]? = some y := by rfl)
    (hvi : Vis X.env.scope y := by first | exact Or.inl rfl | exact Or.inr (Or.inl rfl) | exact Or.inr (Or.inr rfl)) (hd : (y == ("__debug__" : Str)) = false := by decide) (hcd : (y == ("__classdict__" : Str)) = false := by decide)
    (hsw : swapsWith value (some (.Attribute (.Name y p) f pos')) p3.line X.env = pure false := by rfl) : SV X ks W rsh fx (.Assign [.Attribute (.Name y p) f pos'] value p3) (sFld K (tVar i) tv f) (mFset i j f m) := by
  subst hK; exact sv_fset i j cl na hv hs nd hl hk hN hvi hd hcd hsw
end
end VL
/-! V53: reversed(range(n)). -/
namespace VL
open PySem PySem.Spec L2
section
variable {X : Cx} {ks : List Sh} {W : WX} {tg a : Expr} {p q pos pos2 : Pos}
end
end VL
/-! V54: list(d), d a dict: its keys. -/
namespace VL
open PySem PySem.Spec L2
def keysLD : D → Option D
  | .dK ds => if ds.all (fun kv => ascK kv.1) = true then some (.lst (ds.map fun kv => keyD kv.1)) else none
  | .dT ds => if ds.all (fun kv => kv.1.all ascK) = true then some (.lst (ds.map fun kv => .key kv.1)) else none
  | _ => none
theorem reps_keysK {K : PySem.W.Frag} {F : Hp} : ∀ {kvs : List (Key × V)} {ds : List (Key × D)}, kvs.map Prod.fst = ds.map Prod.fst → (∀ kv ∈ ds, ascK kv.1 = true) → Reps K F (kvs.map fun kv => kV kv.1) (ds.map fun kv => keyD kv.1)
  | [], [], _, _ => .nil
  | (k, v) :: kvs, (k', d) :: ds, e, h => by
    have e1 : k = k' := (List.cons.inj e).1
    subst e1
    exact .cons (rep_key k (h _ List.mem_cons_self)) (reps_keysK (List.cons.inj e).2 fun x m => h x (List.mem_cons_of_mem _ m))
  | [], _ :: _, e, _ => by cases e
  | _ :: _, [], e, _ => by cases e
theorem reps_keysT {K : PySem.W.Frag} {F H : Hp} (s : Sub F H) : ∀ {kvs : List (List Key × V)} {ds : List (List Key × D)} {bs : List Addr}, IsKeys H kvs bs → kvs.map Prod.fst = ds.map Prod.fst → (∀ kv ∈ ds, kv.1.all ascK = true) → Reps K F (bs.map V.ref) (ds.map fun kv => .key kv.1)
  | _, [], _, .nil, _, _ => .nil
  | _, (k', d) :: ds, _, .cons (a := (k, v)) hb t, e, h => by
    have e1 : k = k' := (List.cons.inj e).1
    subst e1
    exact .cons (.key (s.tp _ _ hb) (h _ List.mem_cons_self)) (reps_keysT s t (List.cons.inj e).2 fun x m => h x (List.mem_cons_of_mem _ m))
  | _, _ :: _, _, .nil, e, _ => by cases e
  | _, [], _, .cons _ _, e, _ => by cases e
abbrev rKeysL : List V → Hp → VK → Prop := fun xs H Q => (∃ (a : Addr) (kvs : List (Key × V)), xs = [.ref a] ∧ Rd H a (.dK kvs) ∧ ∀ p, H p = none → Q (.ref p) (upd H p (.lst (kvs.map fun kv => kV kv.1)))) ∨
  (∃ d kvs, xs = [V.ref d] ∧ Rd H d (.dT kvs) ∧ ∀ p bs, H p = none → IsKeys H kvs bs → Q (.ref p) (upd H p (.lst (bs.map V.ref))))
theorem cr_keysL {X : Cx} (hc : X.calm = true) : CallR X (.type "list") rKeysL := (call_listD hc).or (call_list_dT hc)
theorem s_keysL {K : PySem.W.Frag} : OpN K (.lst .leaf) rKeysL (one keysLD) := by
  refine s_one fun F H x d z Q sm h e ok => ?_
  unfold keysLD at e
  split at e
  · split at e
    · rename_i ds ha
      cases e
      obtain ⟨p, kvs, e1, e2, e3, r⟩ := h.dKE sm
      subst e1
      exact .inl ⟨_, kvs, rfl, e2, fun q n => ok.newL sm (reps_keysK e3 fun kv m => List.all_eq_true.mp ha kv m) n⟩
    · cases e
  · split at e
    · rename_i ds ha
      cases e
      obtain ⟨p, kvs, e1, e2, e3, r⟩ := h.dTE sm
      subst e1
      exact .inr ⟨_, kvs, rfl, e2, fun q bs n ik => ok.newL sm (reps_keysT sm ik e3 fun kv m => List.all_eq_true.mp ha kv m) n⟩
    · cases e
  · cases e
end VL
/-! V55: x[i], x[j] = a, b: two places of an owned list. -/
namespace VL
open PySem PySem.Spec L2
section
variable {X : Cx} {ks : List Sh} {W : WX} {rsh : Sh} {fx : Nat} {e : Expr} {te : TE} {m : ME} {x y z : Str} {p1 p2 p3 p4 p5 p6 pt pos : Pos} {kt : Nat}
end
end VL
set_option maxHeartbeats 1000000
/-! V56: x[a:c] = another list, x owned. -/
namespace VL
open PySem PySem.Spec L2 PyProof.Rows
section
variable {prog : Program} {w : World} {A : Around} {E : Value → Shared → Prop} {s : Shared}
end
section
variable {X : Cx}
end
section
variable {X : Cx} {ks : List Sh} {W : WX} {rsh : Sh} {fx : Nat} {e lo hi : Expr} {te tl th : TE} {m ml mh : ME} {x : Str} {p1 p2 p3 pos : Pos}
end
end VL
/-! V57: an owned list is frozen where it stands, for the rest of a block. -/
namespace VL
open PySem PySem.Spec L2
section
variable {X : Cx} {ks : List Sh} {W : WX} {rsh : Sh} {fx : Nat} {sts : List Stmt} {t : TS} {m : MS}
end
section
variable {ρ : DEnv} {i : Nat} {m : MS}
end
end VL
/-! V58: a list of any things against the empty list. -/
namespace VL
open PySem PySem.Spec L2
def rL0 (K : PySem.W.Frag) (neg : Bool) : R2 := fun x y H Q => ∃ a b xs, x = .ref a ∧ y = .ref b ∧ SqL K H a xs ∧ SqL K H b [] ∧ Q (.bl (if neg then !xs.isEmpty else xs.isEmpty)) H
theorem op_neL0 {X : Cx} (hu : X.A.units < cLine) : OpR X (compareOp .NotEq) (rL0 X.K true) := by
  intro pins s σ H x y v u Q I rx ry ⟨a, b, xs, ex, ey, ha, hb, q⟩
  subst ex ey
  cases rx
  cases ry
  obtain ⟨its, r1, p1, _⟩ := I.list ha
  obtain ⟨its2, r2, p2, _⟩ := I.list hb
  cases r2
  cases xs with
  | nil =>
    cases r1
    exact (PySem.SeqAt.RcNeAt.lists (e := fun _ => true) p1.isList p2.isList rfl hu fun j h1 h2 => absurd h1 (Nat.not_lt_zero j)) X.prog X.w _ _ ⟨.bl false, H, I, rfl, q⟩
  | cons z xs =>
    cases r1
    exact (PySem.SeqAt.RcNeAt.lists_lengths p1.isList p2.isList (by simp) hu) X.prog X.w _ _ ⟨.bl true, H, I, rfl, q⟩
def neL0D : D → D → Option D
  | .lst ds, .lst [] => some (.bl (!ds.isEmpty))
  | _, _ => none
theorem reps_empty {K : PySem.W.Frag} {F : Hp} {vs : List V} {ds : List D} (r : Reps K F vs ds) : vs.isEmpty = ds.isEmpty := by cases r <;> rfl
theorem s_neL0 {K : PySem.W.Frag} : Op2 K .leaf (rL0 K true) neL0D := by
  intro F H x y d e z Q sm hx hy h ok
  unfold neL0D at h
  split at h
  · rename_i ds
    cases h
    obtain ⟨p, vs, e1, e2, e3⟩ := hx.lstE sm
    obtain ⟨q, ws, e4, e5, e6⟩ := hy.lstE sm
    cases e6
    refine ⟨p, q, vs, e1, e4, .of e2, .of e5, ?_⟩
    rw [reps_empty e3]
    exact ok.here sm (.bl _)
  · cases h
theorem k_neL0 {X : Cx} (K : PySem.W.Frag) (hK : X.K = K) (hu : X.A.units < cLine) : OpR X (compareOp .NotEq) (rL0 K true) := hK ▸ op_neL0 hu
end VL
/-! V59: repr of a tuple that holds dicts (and no lists). -/
namespace VL
open PySem PySem.Spec L2
mutual
def D.toPyW : D → PyData
  | .non => .none | .bl b => .bool b | .int i => .int i | .str x => .str x
  | .tup xs => .tuple (toPyWL xs)
  | .dK kvs => .dict (toPyWK kvs)
  | _ => .none
def toPyWL : List D → List PyData
  | [] => []
  | d :: ds => d.toPyW :: toPyWL ds
def toPyWK : List (Key × D) → List (PyData × PyData)
  | [] => []
  | (k, d) :: r => (keyP k, d.toPyW) :: toPyWK r
end
mutual
def D.pyN : D → Bool
  | .non => true | .bl _ => true | .int _ => true | .str x => asc x
  | .tup xs => pyNL xs
  | .dK kvs => pyNK kvs
  | _ => false
def pyNL : List D → Bool
  | [] => true
  | d :: ds => d.pyN && pyNL ds
def pyNK : List (Key × D) → Bool
  | [] => true
  | (k, d) :: r => ascK k && d.pyN && pyNK r
end
mutual
def D.wtW : D → Nat
  | .non => 4 | .bl _ => 5 | .int _ => 2000 | .str x => 10 * x.length + 2
  | .tup xs => wtWL xs + 2 * xs.length + 3
  | .dK kvs => wtWK kvs + 2 * kvs.length + 3
  | _ => 0
def wtWL : List D → Nat
  | [] => 0
  | d :: ds => d.wtW + wtWL ds
def wtWK : List (Key × D) → Nat
  | [] => 0
  | (k, d) :: r => keyW k + d.wtW + 2 + wtWK r
end
theorem pyNK_L : ∀ {kvs : List (Key × D)}, pyNK kvs = true → pyNL (kvs.map Prod.snd) = true
  | [], _ => by rw [List.map_nil, pyNL]
  | (k, d) :: r, h => by
    rw [pyNK, Bool.and_eq_true, Bool.and_eq_true] at h
    rw [List.map_cons, pyNL, Bool.and_eq_true]
    exact ⟨h.1.2, pyNK_L h.2⟩
theorem key_shown {k : Key} (a : ascK k = true) (h : (keyP k).showable = true) : (keyP k).shown.length ≤ keyW k := by
  cases k with
  | inl i =>
    rw [keyP, PyData.showable, decide_eq_true_eq] at h
    exact int_shown h
  | inr x =>
    rw [keyP, PyData.shown]
    exact PySem.StrLaws.reprText_len x fun c m => Nat.lt_of_lt_of_le ((ascE a).1 c m) (by decide)
mutual
theorem D.wtW_le : ∀ (d : D), d.pyN = true → d.toPyW.showable = true → d.toPyW.shown.length ≤ d.wtW
  | .non, _, _ => by rw [D.toPyW, D.wtW]; decide
  | .bl b, _, _ => by rw [D.toPyW, D.wtW]; cases b <;> decide
  | .int i, _, h => by rw [D.toPyW, PyData.showable, decide_eq_true_eq] at h; rw [D.toPyW, D.wtW]; exact int_shown h
  | .str x, a, _ => by
    rw [D.pyN] at a
    rw [D.toPyW, D.wtW, PyData.shown]
    exact PySem.StrLaws.reprText_len x fun c m => Nat.lt_of_lt_of_le ((ascE a).1 c m) (by decide)
  | .tup xs, q, h => by
    rw [D.pyN] at q
    rw [D.toPyW, PyData.showable] at h
    obtain ⟨h1, h2⟩ := wtWL_le xs q h
    rw [D.toPyW, D.wtW, PyData.shown]
    refine Nat.le_trans (PySem.tupleText_len_le _) ?_
    rw [h2]
    omega
  | .dK kvs, q, h => by
    rw [D.pyN] at q
    rw [D.toPyW, PyData.showable] at h
    obtain ⟨h1, h2⟩ := wtWK_le kvs q h
    rw [D.toPyW, D.wtW, PyData.shown]
    refine Nat.le_trans (PySem.dictText_len_le _) ?_
    rw [h2]
    omega
  | .lst _, q, _ => by rw [D.pyN] at q <;> first | cases q | (intros; rintro ⟨⟩)
  | .dT _, q, _ => by rw [D.pyN] at q <;> first | cases q | (intros; rintro ⟨⟩)
  | .ob _ _, q, _ => by rw [D.pyN] at q <;> first | cases q | (intros; rintro ⟨⟩)
  | .fin _ _, q, _ => by rw [D.pyN] at q <;> first | cases q | (intros; rintro ⟨⟩)
  | .exv _ _, q, _ => by rw [D.pyN] at q <;> first | cases q | (intros; rintro ⟨⟩)
  | .scr _, q, _ => by rw [D.pyN] at q <;> first | cases q | (intros; rintro ⟨⟩)
  | .rp _, q, _ => by rw [D.pyN] at q <;> first | cases q | (intros; rintro ⟨⟩)
  | .ty _, q, _ => by rw [D.pyN] at q <;> first | cases q | (intros; rintro ⟨⟩)
  | .key _, q, _ => by rw [D.pyN] at q <;> first | cases q | (intros; rintro ⟨⟩)
theorem wtWL_le : ∀ (ds : List D), pyNL ds = true → PyData.showableAll (toPyWL ds) = true → ((PyData.shownAll (toPyWL ds)).map (·.length)).sum ≤ wtWL ds ∧ (PyData.shownAll (toPyWL ds)).length = ds.length
  | [], _, _ => by rw [toPyWL, PyData.shownAll, wtWL]; exact ⟨Nat.le_refl _, rfl⟩
  | d :: ds, q, h => by
    rw [pyNL, Bool.and_eq_true] at q
    rw [toPyWL, PyData.showableAll, Bool.and_eq_true] at h
    have h1 := D.wtW_le d q.1 h.1
    obtain ⟨h2, h3⟩ := wtWL_le ds q.2 h.2
    rw [toPyWL, PyData.shownAll, wtWL, List.map_cons, List.sum_cons, List.length_cons, List.length_cons, h3]
    exact ⟨by omega, rfl⟩
theorem wtWK_le : ∀ (kvs : List (Key × D)), pyNK kvs = true → PyData.showableKv (toPyWK kvs) = true → ((PyData.shownKv (toPyWK kvs)).map (·.length)).sum ≤ wtWK kvs ∧ (PyData.shownKv (toPyWK kvs)).length = kvs.length
  | [], _, _ => by rw [toPyWK, PyData.shownKv, wtWK]; exact ⟨Nat.le_refl _, rfl⟩
  | (k, d) :: r, q, h => by
    rw [pyNK, Bool.and_eq_true, Bool.and_eq_true] at q
    rw [toPyWK, PyData.showableKv, Bool.and_eq_true, Bool.and_eq_true] at h
    have h0 := key_shown q.1.1 h.1.1
    have h1 := D.wtW_le d q.1.2 h.1.2
    obtain ⟨h2, h3⟩ := wtWK_le r q.2 h.2
    have l2 : ((": " : Str)).length = 2 := rfl
    rw [toPyWK, PyData.shownKv, wtWK, List.map_cons, List.sum_cons, List.length_cons, List.length_cons, h3]
    refine ⟨?_, rfl⟩
    have l : ((keyP k).shown ++ (": " : Str) ++ d.toPyW.shown).length = (keyP k).shown.length + 2 + d.toPyW.shown.length := by
      rw [Str.length_append, Str.length_append, l2]
    rw [l]
    omega
end
theorem kv_vals : ∀ {kvs : List (Key × V)} {vs : List (Key × Value)}, KV kvs vs → Vals (kvs.map Prod.snd) (vs.map Prod.snd)
  | _, _, .nil => .nil
  | _, _, .cons h t => .cons h.2 (kv_vals t)
theorem pairs_of {h : Heap} : ∀ {kvs : List (Key × V)} {vs : List (Key × Value)} {ds : List (Key × D)} {bs : List Addr}, KV kvs vs → kvs.map Prod.fst = ds.map Prod.fst → ReadsAll h (vs.map Prod.snd) (toPyWL (ds.map Prod.snd)) bs →
    ∃ cs, PyProof.V.PairsRead h keyP vs (toPyWK ds) cs ∧ ∀ x ∈ cs, x ∈ bs
  | [], _, [], _, .nil, _, _ => ⟨[], by rw [toPyWK]; exact .nil, fun _ m => by simp at m⟩
  | [], _, _ :: _, _, .nil, e, _ => by cases e
  | _ :: _, _, [], _, _, e, _ => by cases e
  | (k, v) :: kvs, _, (k2, d) :: ds, _, .cons (b := (k3, u)) h1 t, e, r => by
    rw [List.map_cons, List.map_cons] at e
    have e1 := (List.cons.inj e).1
    have e2 := (List.cons.inj e).2
    obtain ⟨h1a, h1b⟩ := h1
    cases (show k = k2 from e1)
    cases (show k = k3 from h1a)
    rw [List.map_cons, List.map_cons, toPyWL] at r
    cases r with
    | cons r1 r2 =>
      obtain ⟨cs, q1, q2⟩ := pairs_of t e2 r2
      refine ⟨_, by rw [toPyWK]; exact .cons r1 q1, fun x m => ?_⟩
      rcases List.mem_append.mp m with m | m
      · exact List.mem_append_left _ m
      · exact List.mem_append_right _ (q2 x m)
theorem key_reads {h : Heap} {k : Key} {v : Value} (e : keyIs k v = true) : Reads h v (keyP k) [] := by
  rcases keyIs_shape e with ⟨i, t, rfl, rfl⟩ | ⟨x, t, rfl, rfl⟩
  · exact .int _ _
  · exact .str _ _
section
variable {X : Cx} {pins : List (Addr × Obj)} {σ : St} {H : Hp} {s : Shared}
mutual
theorem Rep.rdW (I : Inv X pins σ H s) : ∀ {v : V} {d : D}, Rep X.K H v d → d.pyN = true → ∀ {u : Value}, RelV v u → ∃ as, Reads s.heap u d.toPyW as ∧ sysModules ∉ as
  | _, _, .non, _, _, r => by cases r; exact ⟨_, by rw [D.toPyW]; exact Reads.none, by simp⟩
  | _, _, .bl b, _, _, r => by cases r; exact ⟨_, by rw [D.toPyW]; exact Reads.bool b, by simp⟩
  | _, _, .int i, _, _, r => by obtain ⟨t, rfl⟩ := r; exact ⟨_, by rw [D.toPyW]; exact Reads.int i t, by simp⟩
  | _, _, .str x _, _, _, r => by obtain ⟨t, rfl⟩ := r; exact ⟨_, by rw [D.toPyW]; exact Reads.str x t, by simp⟩
  | _, _, .tup e rs, q, _, r => by
    rw [D.pyN] at q
    cases r
    obtain ⟨its, rv, ⟨o, ho, hc, n, hd⟩, _⟩ := I.tuple (e.sq X.K)
    obtain ⟨as, h1, h2⟩ := Reps.rdW I rs q rv
    exact ⟨as, by rw [D.toPyW]; exact Reads.tuple ho hc hd h1, h2⟩
  | _, _, .dK e ek rs, q, _, r => by
    rw [D.pyN] at q
    cases r
    obtain ⟨_, hd, vs, rel, dd⟩ := dk_rd I.hok (.inr ⟨_, e⟩)
    have hv : Vals (List.map Prod.snd _) (vs.map Prod.snd) := kv_vals rel
    obtain ⟨as, h1, h2⟩ := Reps.rdW I rs (pyNK_L q) hv
    obtain ⟨cs, p1, p2⟩ := pairs_of rel ek h1
    refine ⟨_, by rw [D.toPyW]; exact PyProof.V.reads_dictOf (fun k key hk => key_reads hk) dd p1, fun m => ?_⟩
    rcases List.mem_cons.mp m with m | m
    · rw [← m] at hd; simp at hd
    · exact h2 (p2 _ m)
  | _, _, .lst _ _, q, _, _ => by rw [D.pyN] at q <;> first | cases q | (intros; rintro ⟨⟩)
  | _, _, .dT _ _ _, q, _, _ => by rw [D.pyN] at q <;> first | cases q | (intros; rintro ⟨⟩)
  | _, _, .scr _, q, _, _ => by rw [D.pyN] at q <;> first | cases q | (intros; rintro ⟨⟩)
  | _, _, .rp _, q, _, _ => by rw [D.pyN] at q <;> first | cases q | (intros; rintro ⟨⟩)
  | _, _, .ty _, q, _, _ => by rw [D.pyN] at q <;> first | cases q | (intros; rintro ⟨⟩)
  | _, _, .key _ _, q, _, _ => by rw [D.pyN] at q <;> first | cases q | (intros; rintro ⟨⟩)
  | _, _, .ob _ _ _, q, _, _ => by rw [D.pyN] at q <;> first | cases q | (intros; rintro ⟨⟩)
  | _, _, .fin _ _ _ _, q, _, _ => by rw [D.pyN] at q <;> first | cases q | (intros; rintro ⟨⟩)
  | _, _, .exn _ _, q, _, _ => by rw [D.pyN] at q <;> first | cases q | (intros; rintro ⟨⟩)
  | _, _, .exv _ _ _ _ _, q, _, _ => by rw [D.pyN] at q <;> first | cases q | (intros; rintro ⟨⟩)
theorem Reps.rdW (I : Inv X pins σ H s) : ∀ {vs : List V} {ds : List D}, Reps X.K H vs ds → pyNL ds = true → ∀ {us : List Value}, Vals vs us → ∃ as, ReadsAll s.heap us (toPyWL ds) as ∧ sysModules ∉ as
  | _, _, .nil, _, _, r => by cases r; exact ⟨[], by rw [toPyWL]; exact .nil, by simp⟩
  | _, _, .cons h t, q, _, r => by
    rw [pyNL, Bool.and_eq_true] at q
    cases r with
    | cons r1 r2 =>
      obtain ⟨as, h1, h2⟩ := Rep.rdW I h q.1 r1
      obtain ⟨bs, h3, h4⟩ := Reps.rdW I t q.2 r2
      exact ⟨as ++ bs, by rw [toPyWL]; exact .cons h1 h3, fun m => (List.mem_append.mp m).elim h2 h4⟩
end
end
end VL
/-! V60: x[i] = e in an owned list. -/
namespace VL
open PySem PySem.Spec L2
section
variable {X : Cx} {ks : List Sh} {W : WX} {rsh : Sh} {fx : Nat} {e : Expr} {te : TE} {m : ME} {x y z : Str} {p1 p2 p3 p4 p5 p6 pt pos : Pos} {kt : Nat}
end
end VL
/-! V61: x.extend(t) of an owned list, t a tuple. -/
namespace VL
open PySem PySem.Spec L2
end VL
/-! V62: count of texts in a tuple. -/
namespace VL
open PySem PySem.Spec L2
section
variable {X : Cx} {ks : List Sh} {W : WX} {o e : Expr} {to te : TE} {m mx : ME} {apos cpos : Pos}
end
end VL
/-! V63: x.split(y), texts cut. -/
namespace VL
open PySem PySem.Spec L2
end VL
set_option maxHeartbeats 4000000
/-! V64: sorted(set(x)), x a tuple or a list of texts. -/
namespace VL
open PySem PySem.Spec L2
/-- the set at a holds the texts l, each once; its table rises and can be walked -/
def SetX (P : Program) (w : World) (h : Heap) (a : Addr) (l : List Str) : Prop :=
  ∃ D : Froz.SD, h.get? a = some (Froz.sObj "set" D) ∧ Froz.TxOk P w D l ∧ Ris D.2.2.place.toList ∧ (w.params.followText "set-order" = true ∨ D.2.2.led = true)
theorem SetX.at {P : Program} {w : World} {h h' : Heap} {a : Addr} {l : List Str} (R : SetX P w h a l) (k : ∀ o, h.get? a = some o → h'.get? a = some o) : SetX P w h' a l := by
  obtain ⟨D, h1, r⟩ := R
  exact ⟨D, k _ h1, r⟩
section
variable {P : Program} {w : World} {A : Around} {E : Value → Shared → Prop} {s : Shared}
end
end VL
/-! V65: sorted(set(x)), x a tuple or a list of texts: the rule. -/
namespace VL
open PySem PySem.Spec L2
section
variable {P : Program} {w : World} {A : Around} {E : Value → Shared → Prop} {s : Shared}
end
section
variable {X : Cx}
variable {ks0 : List Sh} {W : WX} {e1 : Expr} {t : TA} {p p2 q pos : Pos}
end
end VL
set_option maxHeartbeats 1000000
/-! V66: methods that change their object and an owned dict handed in; methods of an object just made. -/
namespace VL
open PySem PySem.Spec L2
section
variable {K : PySem.W.Frag} {F1 H1 F' H' : Hp} {fa gb fp1 fp' fv gp : List Addr}
/-- what the callee does not have stays -/
theorem frame_back {ks : List Sh} {ρc : DEnv} {σ : St} (own : ∀ y ∈ fa, F1 y = none) (sb : Sub F1 H1) (sl : RelL K F1 H1 ks ρc σ gb) (ap : ∀ y ∈ fa, y ∉ gb) (x : Ext F1 H1 fa F' H' fp') : RelL K F' H' ks ρc σ gb ∧ ∀ y ∈ fp', y ∉ gb := by
  have keepg : ∀ y ∈ gb, ∃ o, H1 y = some o ∧ y ∉ fa ∧ H' y = some o ∧ F' y = F1 y := fun y m => by
    obtain ⟨_, o, ho⟩ := sl.own y m
    have nf : y ∉ fa := fun q => ap y q m
    obtain ⟨k1, k2⟩ := x.keep y o ho nf
    exact ⟨o, ho, nf, k1, k2⟩
  refine ⟨sl.frame (x.same sb own) fun a m => ?_, fun y m m2 => ?_⟩
  · obtain ⟨o, q1, _, q2, q3⟩ := keepg a m
    exact ⟨q3.trans (sl.own a m).1, q2.trans q1.symm⟩
  · obtain ⟨o, q1, q2, _, _⟩ := keepg y m2
    rcases x.fr y m with w | w
    · exact q2 w
    · rw [w] at q1; cases q1
theorem fin_back (pm : fp1.Perm (fa ++ gb)) (nd1 : fp1.Nodup) (ap : ∀ y ∈ fp' ++ fv, y ∉ gb) (nd : (fp' ++ fv).Nodup) (x : Ext F1 H1 fa F' H' (fp' ++ fv)) (pg : gp.Perm (fp' ++ gb)) : gp.Nodup ∧ (gp ++ fv).Nodup ∧ Ext F1 H1 fp1 F' H' (gp ++ fv) := by
  have nda := List.nodup_append.mp (pm.nodup_iff.mp nd1)
  have ndz := List.nodup_append.mp nd
  have g1 : gp.Nodup := pg.nodup_iff.mpr (List.nodup_append.mpr ⟨ndz.1, nda.2.1, fun y m z m2 q => ap y (List.mem_append_left _ m) (q ▸ m2)⟩)
  have inz : ∀ y ∈ gp ++ fv, y ∈ fp' ++ fv ∨ y ∈ gb := fun y m => by
    rcases List.mem_append.mp m with m | m
    · rcases List.mem_append.mp (pg.subset m) with m | m
      · exact .inl (List.mem_append_left _ m)
      · exact .inr m
    · exact .inl (List.mem_append_right _ m)
  refine ⟨g1, List.nodup_append.mpr ⟨g1, ndz.2.1, fun y m z m2 q => ?_⟩, ⟨fun a o z n1 => x.keep a o z fun q => n1 (pm.symm.subset (List.mem_append_left _ q)), fun y m => ?_⟩⟩
  · subst q
    rcases List.mem_append.mp (pg.subset m) with w | w
    · exact ndz.2.2 y w y m2 rfl
    · exact ap y (List.mem_append_right _ m2) w
  · rcases inz y m with m | m
    · rcases x.fr y m with q | q
      · exact .inl (pm.symm.subset (List.mem_append_left _ q))
      · exact .inr q
    · exact .inl (pm.symm.subset (List.mem_append_right _ m))
end
section
variable {X : Cx} {CX : CXT} {k : Nat} {y z m : Str} {g : List D → R D} {ks : List Sh} {W : WX} {e dd : Expr} {p p' pz pos apos : Pos} {te td to : TE} {me md mo : ME} {rsh s2 : Sh} {C : Addr} {sf : List (Str × Sh)}
end
section
variable {X : Cx} {CX : CXT} {k : Nat} {y z m : Str} {g : List D → R D} {ks : List Sh} {W : WX} {e dd ob : Expr} {p p' pz pos apos : Pos} {te td to : TE} {me md mo : ME} {rsh s2 : Sh} {C : Addr} {sf : List (Str × Sh)} (K : PySem.W.Frag) (hK : X.K = K)
include hK
end
end VL
set_option maxHeartbeats 1000000
/-! V67: frozen instances: made, their fields read, their methods called. -/
namespace VL
open PySem PySem.Spec L2
theorem OF.frozen {K : PySem.W.Frag} {F H G : Hp} (s0 : Same F G) : ∀ {sf : List (Str × Sh)} {fv : List (Str × V)} {fd : List (Str × D)} {fp : List Addr}, OF K F H sf fv fd fp → (∀ a ∈ fp, Frzd (H a) (G a)) → fv.map Prod.fst = fd.map Prod.fst ∧ Reps K G (fv.map Prod.snd) (fd.map Prod.snd)
  | _, _, _, _, .nil, _ => ⟨rfl, .nil⟩
  | _, _, _, _, .cons o t, h => by
    obtain ⟨e, r⟩ := OF.frozen s0 t fun a m => h a (List.mem_append_right _ m)
    exact ⟨by rw [List.map_cons, List.map_cons, e], .cons (o.frozen s0 fun a m => h a (List.mem_append_left _ m)) r⟩
section
variable {X : Cx} {CX : CXT} {k n : Nat} {c f : Str} {g : List D → R D} {ks : List Sh} {W : WX} {e a : Expr} {es : List Expr} {pos apos : Pos} {t : TE} {ta : TA} {m : ME} {ma : MA} {rsh : Sh} {C : Addr} {sf : List (Str × Sh)}
end
section
variable {X : Cx} {CX : CXT} {k n : Nat} {c f : Str} {g : List D → R D} {ks : List Sh} {W : WX} {o e : Expr} {es : List Expr} {pos apos : Pos} {t : TE} {ta : TA} {m : ME} {ma : MA} {rsh : Sh} {C : Addr} {sf : List (Str × Sh)} (K : PySem.W.Frag) (hK : X.K = K)
include hK
end
end VL
/-! V68: str(n). -/
namespace VL
open PySem PySem.Spec L2
def strID : D → Option D
  | .int i => if i.natAbs.log2 < 1920 then some (.rp (.int i)) else none
  | _ => none
theorem s_strI {K : PySem.W.Frag} : OpN K .leaf (fun xs H Q => ∃ i : Int, xs = [.int i] ∧ i.natAbs.log2 < 1920 ∧ Q (.str (toString i)) H) (one strID) := by
  refine s_one fun F H x d z Q sm h e ok => ?_
  cases d with
  | int i =>
    unfold strID at e
    dsimp only at e
    split at e
    · rename_i hi
      cases e
      rw [h.intE]
      exact ⟨i, rfl, hi, ok.here sm (by have := Rep.rp (K := K) (F := F) (.int i); rwa [PyData.shown] at this)⟩
    · cases e
  | _ => cases e
end VL
/-! V69: t[::i] of a tuple, i being 1 or -1. -/
namespace VL
open PySem PySem.Spec L2
section
variable {prog : Program} {w : World} {A : Around} {E : Value → Shared → Prop} {s : Shared}
end
section
variable {X : Cx} {a c : Expr} {ta tc : TE} {pos p2 : Pos}
end
end VL
/-! V70: min(i, j, k). -/
namespace VL
open PySem PySem.Spec L2
section
variable {X : Cx} {K : PySem.W.Frag}
def three (f : D → D → D → Option D) : List D → Option D
  | [a, b, c] => f a b c
  | _ => none
end
end VL
/-! V71: a, b = x, y with plain local names. -/
namespace VL
open PySem PySem.Spec L2
section
variable {X : Cx} {ks : List Sh} {W : WX} {rsh : Sh} {fx : Nat} {x y : Str} {a b : Expr} {ta : TA} {ma : MA} {px py pt pos pt2 : Pos} {kt k2 : Nat}
end
end VL
/-! V72: a dict of the module, texts to whole numbers: x in T, T[x]. -/
namespace VL
open PySem PySem.Spec L2
/-- its entries -/
def Ents : List (Str × Int) → List DictEntry → Prop
  | [], [] => True
  | (x, i) :: l, e :: es => (∃ t, e.key = .str x t) ∧ (∃ t, e.val = .int i t) ∧ Ents l es
  | _, _ => False
theorem ents_find : ∀ {l : List (Str × Int)} {es : List DictEntry}, Ents l es → ∀ z : Str, (match l.lookup z with
    | some i => ∃ e t, es.find? (·.key.isStr z) = some e ∧ e.val = .int i t
    | none => es.find? (·.key.isStr z) = none)
  | [], [], _, z => rfl
  | (x, i) :: l, e :: es, h, z => by
    obtain ⟨⟨t, h1⟩, ⟨t2, h2⟩, h3⟩ := h
    have ih := ents_find h3 z
    have ek : e.key.isStr z = (x == z) := by rw [h1]; rfl
    rw [List.find?_cons, ek, List.lookup_cons]
    by_cases c : z = x
    · subst c
      rw [beq_self_eq_true]
      exact ⟨e, t2, rfl, h2⟩
    · have c1 : (x == z) = false := beq_eq_false_iff_ne.mpr fun q => c q.symm
      have c2 : (z == x) = false := beq_eq_false_iff_ne.mpr c
      rw [c1, c2]
      exact ih
  | [], _ :: _, h, _ => h.elim
  | _ :: _, [], h, _ => h.elim
theorem ents_ref : ∀ {l : List (Str × Int)} {es : List DictEntry}, Ents l es → es.any (·.refKey) = false
  | [], [], _ => rfl
  | (x, i) :: l, e :: es, h => by
    obtain ⟨⟨t, h1⟩, _, h3⟩ := h
    rw [List.any_cons, ents_ref h3, Bool.or_false]
    unfold DictEntry.refKey
    rw [h1]
  | [], _ :: _, h => h.elim
  | _ :: _, [], h => h.elim
structure KTab (K : PySem.W.Frag) (w : World) (d : Addr) (l : List (Str × Int)) : Prop where
  ex : ∃ es n, KDict K w d es n ∧ Ents l es.toList
theorem KTab.ns {K : PySem.W.Frag} {w : World} {d : Addr} {l : List (Str × Int)} (T : KTab K w d l) (z : Str) : (match l.lookup z with
    | some i => ∃ t, PySem.W.nsIn K d z = some (some (.int i t))
    | none => PySem.W.nsIn K d z = some none) := by
  obtain ⟨es, n, D, he⟩ := T.ex
  have f := ents_find he z
  have e : PySem.W.nsIn K d z = (match es.toList.find? (·.key.isStr z) with
      | some e => some (some e.val)
      | none => if es.toList.any (·.refKey) then none else some none) := by
    unfold PySem.W.nsIn
    rw [D.at_]
    rfl
  cases q : l.lookup z with
  | some i =>
    rw [q] at f
    obtain ⟨en, t, f1, f2⟩ := f
    refine ⟨t, ?_⟩
    rw [e, f1]
    show some (some en.val) = _
    rw [f2]
  | none =>
    rw [q] at f
    show PySem.W.nsIn K d z = some none
    have f : es.toList.find? (·.key.isStr z) = none := f
    rw [e, f]
    dsimp only
    rw [ents_ref he]; rfl
section
variable {X : Cx} {ks : List Sh} {W : WX} {e : Expr} {te : TE} {me : ME} {nm : Str} {d : Addr} {l : List (Str × Int)} {p pos : Pos}
end
end VL
/-! V73: a walk over zip of two lists. -/
namespace VL
open PySem PySem.Spec L2
end VL
/-! V74: dict of a list of pairs whose first ones are tuples of texts and numbers. -/
namespace VL
open PySem PySem.Spec L2
section
variable {X : Cx} {pins : List (Addr × Obj)} {σ : St} {H : Hp} {s : Shared}
end
/-! ### the values -/
section
variable {K : PySem.W.Frag}
end
section
variable {X : Cx} (K : PySem.W.Frag) (hK : X.K = K)
include hK
end
end VL
/-! V75: == of two dicts whose keys are tuples, their values True. -/
namespace PySem.W
open Lean Elab Tactic Meta PySem PySem.Calls PyProof.Rows PyProof.V PySem.Spec
section
variable {prog : Program} {w : World} {K : Type} [DecidableEq K] {knd : HeapKind prog w K} {A : Around} {E : Value → Shared → Prop} {s : Shared}
end
end PySem.W
namespace VL
open PySem PySem.Spec L2
end VL
set_option maxHeartbeats 1000000
/-! V76: a comprehension over an owned list that stays its owner's; calls that change two owned things. -/
namespace VL
open PySem PySem.Spec L2
section
variable {K : PySem.W.Frag} {ks : List Sh} {F H : Hp} {ρ : DEnv} {σ : St} {fp : List Addr} {i : Nat}
end
section
variable {X : Cx} {ks : List Sh} {W : WX}
end
/-! ### f(x, y, ..): x of slot i, y of slot j, both may be changed -/
section
variable {X : Cx} {ks : List Sh} {W : WX} {CX : CXT} {k n : Nat} {rsh s0 s2 : Sh} {g : List D → R D} {x : Str} {p pos : Pos} {es : List Expr} {t : TA} {ma : MA}
end
end VL
/-! V77: a tuple times a number, whatever their sizes. -/
namespace VL
open PySem PySem.Spec L2 PyProof.Rows
open PyProof.Rows (IsTup)
section
variable {X : Cx} (K : PySem.W.Frag) (hK : X.K = K)
include hK
end
end VL
/-! V78: True + 1, True - 1, str(n) and str(True) as texts, a tuple of any things against the empty one. -/
namespace VL
open PySem PySem.Spec L2
/-! str -/
/-! a tuple of any things against the empty one -/
def rTu0 (K : PySem.W.Frag) : R2 := fun x y H Q => ∃ a b xs, x = .ref a ∧ y = .ref b ∧ SqT K H a xs ∧ SqT K H b [] ∧ Q (.bl xs.isEmpty) H
theorem op_eqTu {X : Cx} (hu : X.A.units < cLine) : OpR X (compareOp .Eq) (rTu0 X.K) := by
  intro pins s σ H x y v u Q I rx ry ⟨a, b, xs, ex, ey, ha, hb, q⟩
  subst ex ey
  cases rx
  cases ry
  obtain ⟨its, r1, p1, _⟩ := I.tuple ha
  obtain ⟨its2, r2, p2, _⟩ := I.tuple hb
  cases r2
  have e : (((List.range (min its.toArray.size (#[] : Array Value).size)).all fun _ => true) && its.toArray.size == (#[] : Array Value).size) = xs.isEmpty := by
    cases r1 <;> simp
  exact (PySem.SeqAt.RcAt.tuples (l := a) (b := b) (e := fun _ => true) (items := its.toArray) (items2 := #[]) p1 p2 hu fun j h1 h2 => absurd h2 (Nat.not_lt_zero j)) X.prog X.w _ _ ⟨.bl xs.isEmpty, H, I, congrArg Value.bool e, q⟩
def eqTuD : D → D → Option D
  | .tup ds, .tup [] => some (.bl ds.isEmpty)
  | _, _ => none
theorem s_eqTu {K : PySem.W.Frag} : Op2 K .leaf (rTu0 K) eqTuD := by
  intro F H x y d e z Q sm hx hy h ok
  unfold eqTuD at h
  split at h
  · rename_i ds
    cases h
    obtain ⟨p, vs, e1, e2, e2', e3⟩ := hx.tupR sm
    obtain ⟨q, ws, e4, e5, e5', e6⟩ := hy.tupR sm
    cases e6
    refine ⟨p, q, vs, e1, e4, e2, e5, ?_⟩
    rw [reps_empty e3]
    exact ok.here sm (.bl _)
  · cases h
theorem k_eqTu {X : Cx} (K : PySem.W.Frag) (hK : X.K = K) (hu : X.A.units < cLine) : OpR X (compareOp .Eq) (rTu0 K) := hK ▸ op_eqTu hu
end VL
/-! V79: == of two lists of shown texts, as many in both. -/
namespace VL
open PySem PySem.Spec L2
end VL
set_option maxHeartbeats 1000000
/-! V80: methods of lists that fields hold; what they are given is reckoned while the instance is lent (its leaf fields can be read). -/
namespace VL
open PySem PySem.Spec L2
mutual
/-- no frozen instance within -/
def D.nf : D → Bool
  | .non => true | .bl _ => true | .int _ => true | .str _ => true
  | .tup xs => nfL xs | .lst xs => nfL xs
  | .dK kvs => nfK kvs | .dT kvs => nfT kvs
  | .ob _ _ => true | .fin _ _ => false | .exv _ _ => false | .scr _ => true | .rp _ => true | .ty _ => true | .key _ => true
def nfL : List D → Bool
  | [] => true
  | d :: ds => d.nf && nfL ds
def nfK : List (Key × D) → Bool
  | [] => true
  | (_, d) :: r => d.nf && nfK r
def nfT : List (List Key × D) → Bool
  | [] => true
  | (_, d) :: r => d.nf && nfT r
end
theorem nfK_L : ∀ {kvs : List (Key × D)}, nfK kvs = true → nfL (kvs.map Prod.snd) = true
  | [], _ => by rw [List.map_nil, nfL]
  | (k, d) :: r, h => by
    rw [nfK, Bool.and_eq_true] at h
    rw [List.map_cons, nfL, Bool.and_eq_true]
    exact ⟨h.1, nfK_L h.2⟩
theorem nfT_L : ∀ {kvs : List (List Key × D)}, nfT kvs = true → nfL (kvs.map Prod.snd) = true
  | [], _ => by rw [List.map_nil, nfL]
  | (k, d) :: r, h => by
    rw [nfT, Bool.and_eq_true] at h
    rw [List.map_cons, nfL, Bool.and_eq_true]
    exact ⟨h.1, nfT_L h.2⟩
/-- all but instances stand in both -/
def SameI (F G : Hp) : Prop := ∀ a o, F a = some o → (∀ C dx fv, o ≠ .ins C dx fv) → G a = some o
mutual
theorem Rep.nfS {K : PySem.W.Frag} {F G : Hp} (s : SameI F G) : ∀ {v : V} {d : D}, Rep K F v d → d.nf = true → Rep K G v d
  | _, _, .non, _ => .non
  | _, _, .bl b, _ => .bl b
  | _, _, .int i, _ => .int i
  | _, _, .str x h, _ => .str x h
  | _, _, .tup h r, q => by
    rw [D.nf] at q
    obtain ⟨us, e⟩ := h
    exact .tup ⟨us, s _ _ e (by intro _ _ _ z; cases z)⟩ (Reps.nfS s r q)
  | _, _, .lst h r, q => by
    rw [D.nf] at q
    exact .lst (s _ _ h (by intro _ _ _ z; cases z)) (Reps.nfS s r q)
  | _, _, .dK h e r, q => by
    rw [D.nf] at q
    exact .dK (s _ _ h (by intro _ _ _ z; cases z)) e (Reps.nfS s r (nfK_L q))
  | _, _, .dT h e r, q => by
    rw [D.nf] at q
    exact .dT (s _ _ h (by intro _ _ _ z; cases z)) e (Reps.nfS s r (nfT_L q))
  | _, _, .scr h, _ => by
    refine .scr ?_
    rcases h with (h | ⟨o, h⟩) | h
    · exact .inl (.inl (s _ _ h (by intro _ _ _ z; cases z)))
    · exact .inl (.inr ⟨o, s _ _ h (by intro _ _ _ z; cases z)⟩)
    · exact .inr h
  | _, _, .rp p, _ => .rp p
  | _, _, .ty n, _ => .ty n
  | _, _, .key h e, _ => .key (s _ _ h (by intro _ _ _ z; cases z)) e
  | _, _, .ob a c fs, _ => .ob a c fs
  | _, _, .fin _ _ _ _, q => by rw [D.nf] at q; cases q
  | _, _, .exn _ _, q => by rw [D.nf] at q; cases q
  | _, _, .exv _ _ _ _ _, q => by rw [D.nf] at q; cases q
theorem Reps.nfS {K : PySem.W.Frag} {F G : Hp} (s : SameI F G) : ∀ {vs : List V} {ds : List D}, Reps K F vs ds → nfL ds = true → Reps K G vs ds
  | _, _, .nil, _ => .nil
  | _, _, .cons h r, q => by
    rw [nfL, Bool.and_eq_true] at q
    exact .cons (Rep.nfS s h q.1) (Reps.nfS s r q.2)
end
section
variable {K : PySem.W.Frag} {ks : List Sh} {F H : Hp} {ρ : DEnv} {σ : St} {fp : List Addr} {i : Nat} {C : Addr} {sf : List (Str × Sh)} {c c' : Str} {fd : List (Str × D)}
variable {f : Str} {j : Nat}
end
section
variable {X : Cx} {ks : List Sh} {W : WX} {e : Expr} {es : List Expr} {y f name : Str} {id : String} {p pos apos cpos : Pos} {C : Addr} {sf : List (Str × Sh)} {r : V → List V → Hp → VK → Prop} {g : List D → List D → Option (D × List D)} {t : TA} {args : MA} {c : Str} (K : PySem.W.Frag) (hK : X.K = K)
include hK
end
end VL
/-! V81: tuple(self.f), f a list. -/
namespace VL
open PySem PySem.Spec L2
section
variable {X : Cx} {ks : List Sh} {W : WX} {a : Expr} {p pos : Pos} {ta : TE} {m : ME}
end
end VL
/-! V82: t[2:0:-1] of a tuple of at least three things. -/
namespace VL
open PySem PySem.Spec L2
section
variable {prog : Program} {w : World} {A : Around} {E : Value → Shared → Prop} {s : Shared}
end
section
variable {X : Cx} {a l h c : Expr} {ta tl th tc : TE} {pos p2 : Pos}
end
end VL
/-! V83: try: .. except B: suite, without a name -/
namespace VL
open PySem PySem.Spec L2 PyProof.Rows
section
variable {X : Cx} {ks : List Sh} {W : WX} {rsh : Sh} {fx : Nat} {x : Str} {c : Value} {body suite : List Stmt} {b₀ : Stmt} {np pos pos' : Pos} {mb ms : MS}
end
end VL
/-! V84: exceptions as values: made without raise, asked by isinstance, their fields read. -/
namespace VL
open PySem PySem.Spec L2
open PyProof.Rows (IntsAre)
section
variable {X : Cx} {ks : List Sh} {W : WX} {e o : Expr} {es : List Expr} {ta : TA} {te : TE} {ma : MA} {me : ME} {c : Str} {fs : List Str} {C : Addr} {p pos p2 : Pos}
/-! ### made -/
/-! ### isinstance(e, C), isinstance(e, (C, ..)) -/
/-! ### e.f -/
end
end VL
set_option maxHeartbeats 1000000
/-! V85: things that hold others by name (instances, dicts of fields): a field lent, changed, given back. -/
namespace VL
open PySem PySem.Spec L2
/-- the field x of the holder at p is w -/
def FldAt : Sh → Hp → Addr → Str → V → Prop
  | .ins C _, H, p, x, w => ∃ dx fv, H p = some (.ins C dx fv) ∧ fv.lookup x = some w
  | .rcd _, H, p, x, w => ∃ fv, H p = some (.dK (recK fv)) ∧ fv.lookup x = some w
  | .rcq _ _ _, H, p, x, w => ∃ fv, H p = some (.dK (recK fv)) ∧ fv.lookup x = some w
  | _, _, _, _, _ => False
def holdS : Sh → Option (List (Str × Sh))
  | .ins _ sf => some sf
  | .rcd sf => some sf
  | .rcq sf _ _ => some sf
  | _ => none
section
variable {K : PySem.W.Frag} {F H : Hp}
theorem OR.hold {s : Sh} {sf : List (Str × Sh)} {v : V} {d : D} {f : List Addr} (o : OR K F H s v d f) (hs : holdS s = some sf) :
    ∃ c fd p fv fi os, v = .ref p ∧ d = .ob c fd ∧ f = os ++ fi ∧ p ∈ os ∧ OF K F H sf fv fd fi ∧ (∀ H', (∀ a ∈ os, H' a = H a) → ∀ x w, fv.lookup x = some w → FldAt s H' p x w) ∧ (∀ sf' j q, s = .rcq sf' j q → ∃ x, fv[j]? = some (x, .ref q)) ∧
      ∀ {F' H' : Hp} {fd' : List (Str × D)} {fi' : List Addr}, (∀ a ∈ os, F' a = none ∧ H' a = H a) → OF K F' H' sf fv fd' fi' → OR K F' H' s (.ref p) (.ob c fd') (os ++ fi') := by
  cases o with
  | @ins C p dx c sf' fv fd fp n1 n2 h1 h2 of =>
    cases hs
    refine ⟨c, fd, p, fv, fp, [p, dx], rfl, rfl, rfl, List.mem_cons_self, of, fun H' k x w l => ⟨dx, fv, (k p List.mem_cons_self).trans h1, l⟩, (fun _ _ _ z => by cases z), fun {F' H' fd' fi'} k of' => ?_⟩
    obtain ⟨a1, a2⟩ := k p List.mem_cons_self
    obtain ⟨b1, b2⟩ := k dx (List.mem_cons_of_mem _ List.mem_cons_self)
    exact .ins a1 b1 (a2.trans h1) (b2.trans h2) of'
  | @rcd p c sf' fv fd fp n1 h1 of =>
    cases hs
    refine ⟨c, fd, p, fv, fp, [p], rfl, rfl, rfl, List.mem_cons_self, of, fun H' k x w l => ⟨fv, (k p List.mem_cons_self).trans h1, l⟩, (fun _ _ _ z => by cases z), fun {F' H' fd' fi'} k of' => ?_⟩
    obtain ⟨a1, a2⟩ := k p List.mem_cons_self
    exact .rcd a1 (a2.trans h1) of'
  | @rcq p q j c x sf' fv fd fp e n1 h1 of =>
    cases hs
    refine ⟨c, fd, p, fv, fp, [p], rfl, rfl, rfl, List.mem_cons_self, of, fun H' k x w l => ⟨fv, (k p List.mem_cons_self).trans h1, l⟩, (fun _ _ _ z => by cases z; exact ⟨_, e⟩), fun {F' H' fd' fi'} k of' => ?_⟩
    obtain ⟨a1, a2⟩ := k p List.mem_cons_self
    exact .rcq e a1 (a2.trans h1) of'
  | _ => cases hs
end
section
variable {K : PySem.W.Frag} {ks : List Sh} {F H : Hp} {ρ : DEnv} {σ : St} {fp : List Addr} {i j : Nat} {s s0 : Sh} {sf : List (Str × Sh)} {x y : Str} {o d0 : D}
/-- a field, and what stands when its cells alone change -/
theorem Rel.fldH (r : Rel K ks F H ρ σ fp) (hk : ks[i]? = some s) (hs : holdS s = some sf) (hsj : sf[j]? = some (x, s0)) (nd : (sf.map Prod.fst).Nodup) (e : own ρ i = some o) (e2 : fldD j o = some (y, d0)) :
    ∃ p v f0, y = x ∧ σ[i]? = some (some (.ref p)) ∧ FldAt s H p x v ∧ OR K F H s0 v d0 f0 ∧ f0.Nodup ∧ (∀ a ∈ f0, a ∈ fp) ∧ (∀ sf' q, s = .rcq sf' j q → v = .ref q) ∧
      ∀ {F' H' : Hp} {d1 : D} {f1 fx : List Addr}, Sub F' H' → Ext F H f0 F' H' (f1 ++ fx) → (f1 ++ fx).Nodup → OR K F' H' s0 v d1 f1 →
        ∃ gp, Rel K ks F' H' (ρ.set i (some (withF j x d1 o))) σ gp ∧ (gp ++ fx).Nodup ∧ Ext F H fp F' H' (gp ++ fx) ∧ FldAt s H' p x v := by
  obtain ⟨v, f, g', s1, o1, sl, pm⟩ := r.sl.split hk (getE e)
  obtain ⟨c, fd, p, fv, fi, os, rfl, rfl, rfl, pos, of, fa, al, back⟩ := o1.hold hs
  obtain ⟨s', w, f0, g, h1, h2, h3, h4, h5⟩ := of.at_ (show fd[j]? = some (y, d0) from e2)
  rw [hsj] at h1
  cases h1
  have hl := fv_look (of.nd nd) h2
  have ndA := List.nodup_append.mp (pm.nodup_iff.mp r.nd)
  have ndB := List.nodup_append.mp ndA.1
  have ndC := List.nodup_append.mp (h4.nodup_iff.mp ndB.2.1)
  have osH : ∀ a ∈ os, F a = none ∧ ∃ u, H a = some u := fun a m => o1.own a (List.mem_append_left _ m)
  have f0fi : ∀ a ∈ f0, a ∈ fi := fun a m => h4.symm.subset (List.mem_append_left _ m)
  have gfi : ∀ a ∈ g, a ∈ fi := fun a m => h4.symm.subset (List.mem_append_right _ m)
  have fifp : ∀ a ∈ fi, a ∈ fp := fun a m => pm.symm.subset (List.mem_append_left _ (List.mem_append_right _ m))
  have osfp : ∀ a ∈ os, a ∈ fp := fun a m => pm.symm.subset (List.mem_append_left _ (List.mem_append_left _ m))
  have gfp : ∀ a ∈ g', a ∈ fp := fun a m => pm.symm.subset (List.mem_append_right _ m)
  have os0 : ∀ a ∈ os, a ∉ f0 := fun a m q => ndB.2.2 a m a (f0fi a q) rfl
  have g0 : ∀ a ∈ g, a ∉ f0 := fun a m q => ndC.2.2 a q a m rfl
  have g'0 : ∀ a ∈ g', a ∉ f0 := fun a m q => ndA.2.2 a (List.mem_append_right _ (f0fi a q)) a m rfl
  refine ⟨p, w, f0, rfl, s1, fa H (fun _ _ => rfl) _ _ hl, h3, ndC.1, fun a m => fifp a (f0fi a m), fun sf' q z => ?_, fun {F' H' d1 f1 fx} sb x' nd1 oN => ?_⟩
  · obtain ⟨x0, hx0⟩ := al sf' j q z
    rw [h2] at hx0
    cases hx0; rfl
  have kp : ∀ a, a ∉ f0 → (∃ u, H a = some u) → H' a = H a ∧ F' a = F a := fun a n ⟨u, hu⟩ => by
    obtain ⟨k1, k2⟩ := x'.keep a u hu n
    exact ⟨k1.trans hu.symm, k2⟩
  have sm : Same F F' := x'.same r.sub fun a m => (h3.own a m).1
  have osK : ∀ a ∈ os, F' a = none ∧ H' a = H a := fun a m => by
    obtain ⟨k1, k2⟩ := kp a (os0 a m) (osH a m).2
    exact ⟨k2.trans (osH a m).1, k1⟩
  have gH : ∀ a ∈ g, F a = none ∧ ∃ u, H a = some u := fun a m => of.own a (gfi a m)
  have gK : ∀ a ∈ g, F' a = none ∧ H' a = H a := fun a m => by
    obtain ⟨k1, k2⟩ := kp a (g0 a m) (gH a m).2
    exact ⟨k2.trans (gH a m).1, k1⟩
  obtain ⟨fi', q1, q2⟩ := h5 (F' := F') (H' := H') (v' := w) (d' := d1) (f' := f1) sm gK oN
  have h2' : fv.set j (x, w) = fv := by
    obtain ⟨l, e9⟩ := List.getElem?_eq_some_iff.mp h2
    rw [← e9]; exact List.set_getElem_self l
  rw [h2'] at q1
  have o2 := back osK q1
  have g'H : ∀ a ∈ g', F a = none ∧ ∃ u, H a = some u := fun a m => sl.own a m
  have sl2 : RelL K F' H' ks (ρ.set i none) σ g' := sl.frame sm fun a m => by
    obtain ⟨k1, k2⟩ := kp a (g'0 a m) (g'H a m).2
    exact ⟨k2.trans (g'H a m).1, k1⟩
  obtain ⟨gp, j1, j2⟩ := RelL.join o2 sl2 hk s1
  have ndf := List.nodup_append.mp nd1
  have f1x : ∀ a ∈ f1 ++ fx, a ∈ f0 ∨ H a = none := fun a m => x'.fr a m
  have noH : ∀ a ∈ f1 ++ fx, (∃ u, H a = some u) → a ∈ f0 := fun a m ⟨u, hu⟩ => (f1x a m).resolve_right fun z => by rw [hu] at z; cases z
  have inq : ∀ a ∈ gp, a ∈ os ∨ a ∈ f1 ∨ a ∈ g ∨ a ∈ g' := fun a m => by
    rcases List.mem_append.mp (j2.subset m) with m | m
    · rcases List.mem_append.mp m with m | m
      · exact .inl m
      · rcases List.mem_append.mp (q2.subset m) with m | m
        · exact .inr (.inl m)
        · exact .inr (.inr (.inl m))
    · exact .inr (.inr (.inr m))
  have fi'nd : fi'.Nodup := q2.nodup_iff.mpr (List.nodup_append.mpr ⟨ndf.1, ndC.2.1, fun a m b m2 z => by
    subst z
    exact g0 a m2 (noH a (List.mem_append_left _ m) (gH a m2).2)⟩)
  have ndo : (os ++ fi').Nodup := List.nodup_append.mpr ⟨ndB.1, fi'nd, fun a m b m2 z => by
    subst z
    rcases List.mem_append.mp (q2.subset m2) with m2 | m2
    · exact os0 a m (noH a (List.mem_append_left _ m2) (osH a m).2)
    · exact ndB.2.2 a m a (gfi a m2) rfl⟩
  have gpn : gp.Nodup := j2.nodup_iff.mpr (List.nodup_append.mpr ⟨ndo, ndA.2.1, fun a m b m2 z => by
    subst z
    rcases List.mem_append.mp m with m | m
    · exact ndA.2.2 a (List.mem_append_left _ m) a m2 rfl
    · rcases List.mem_append.mp (q2.subset m) with m | m
      · exact g'0 a m2 (noH a (List.mem_append_left _ m) (g'H a m2).2)
      · exact ndA.2.2 a (List.mem_append_right _ (gfi a m)) a m2 rfl⟩)
  refine ⟨gp, ⟨sb, gpn, j1⟩, List.nodup_append.mpr ⟨gpn, ndf.2.1, fun a m b m2 z => ?_⟩, ⟨fun a u hu n => ?_, fun a m => ?_⟩, fa H' (fun a m => (osK a m).2) _ _ hl⟩
  · subst z
    rcases inq a m with m | m | m | m
    · exact os0 a m (noH a (List.mem_append_right _ m2) (osH a m).2)
    · exact ndf.2.2 a m a m2 rfl
    · exact g0 a m (noH a (List.mem_append_right _ m2) (gH a m).2)
    · exact g'0 a m (noH a (List.mem_append_right _ m2) (g'H a m).2)
  · obtain ⟨k1, k2⟩ := x'.keep a u hu fun q => n (fifp a (f0fi a q))
    exact ⟨k1, k2⟩
  · have low : ∀ a ∈ f1 ++ fx, a ∈ fp ∨ H a = none := fun a m => (f1x a m).imp (fun q => fifp a (f0fi a q)) id
    rcases List.mem_append.mp m with m | m
    · rcases inq a m with m | m | m | m
      · exact .inl (osfp a m)
      · exact low a (List.mem_append_left _ m)
      · exact .inl (fifp a (gfi a m))
      · exact .inl (gfp a m)
    · exact low a (List.mem_append_right _ m)
end
/-! ### expressions that name a field -/
structure FR (X : Cx) (ks : List Sh) (e : Expr) (i j : Nat) (s : Sh) (x : Str) (t : TE) (gd : DEnv → Bool) : Prop where
  pe : PE X e t
  rd : ∀ ρ σ F H fp Q p w, Rel X.K ks F H ρ σ fp → gd ρ = true → σ[i]? = some (some (.ref p)) → FldAt s H p x w → (∀ sf' q, s = .rcq sf' j q → w = .ref q) → Q w H → t σ H Q
def gd0 : DEnv → Bool := fun _ => true
def gdK (k : Nat) : DEnv → Bool := fun ρ => (own ρ k).isSome
theorem rec_val {fv : List (Str × V)} {x : Str} {w : V} : fv.lookup x = some w → valV (recK fv) (.inr x) = some w := by
  induction fv with
  | nil => intro h; cases h
  | cons q fv ih =>
    obtain ⟨y, v⟩ := q
    intro h
    rw [List.lookup_cons] at h
    unfold valV recK
    rw [List.map_cons, List.find?_cons]
    by_cases e : x = y
    · subst e
      simp at h
      subst h
      rw [decide_eq_true (by rfl)]; rfl
    · have : (x == y) = false := by simpa using e
      rw [this] at h
      rw [decide_eq_false (fun z => e (Sum.inr.inj z).symm)]
      exact ih h
section
variable {X : Cx} {ks : List Sh} {W : WX} {e c : Expr} {es : List Expr} {i j : Nat} {s s0 : Sh} {sf : List (Str × Sh)} {x y : Str} {t tc : TE} {ta : TA} {ma : MA} {mc : ME} {p pos pos' apos cpos : Pos} {C : Addr}
/-- self.f -/
theorem fr_ins (K : PySem.W.Frag) (hK : X.K = K) (i j : Nat) (cl : Cls K C) (na : NoAttr K C x) (hN : X.N[i]? = some y := by rfl)
    (hvi : Vis X.env.scope y := by first | exact Or.inl rfl | exact Or.inr (Or.inl rfl) | exact Or.inr (Or.inr rfl)) (hd : (y == ("__debug__" : Str)) = false := by decide) (hcd : (y == ("__classdict__" : Str)) = false := by decide)
    (hb : attributeBase (.Name y p) x X.env (eval (.Name y p) X.env) = eval (.Name y p) X.env := by rfl) : FR X ks (.Attribute (.Name y p) x pos) i j (.ins C sf) x (tFld K (tVar i) x) gd0 := by
  subst hK
  exact ⟨pe_fld (pe_var hN hvi hd hcd) hb, fun ρ σ F H fp Q p w r _ s1 ⟨dx, fv, hp, hl⟩ _ q => ⟨.ref p, s1, p, C, dx, fv, w, rfl, hp, cl, na, hl, q⟩⟩
/-- d["f"] -/
theorem fr_rcd {k : Nat} (hu : X.A.units + 1 < cLine) (i j : Nat) (hs : s = .rcd sf ∨ ∃ q, s = .rcq sf k q) (hN : X.N[i]? = some y := by rfl)
    (hvi : Vis X.env.scope y := by first | exact Or.inl rfl | exact Or.inr (Or.inl rfl) | exact Or.inr (Or.inr rfl)) (hd : (y == ("__debug__" : Str)) = false := by decide) (hcd : (y == ("__classdict__" : Str)) = false := by decide) {jj} {p2 : Pos} :
    FR X ks (.Subscript (.Name y p) (.Constant (.str x) jj p2) pos) i j s x (tOp rIxD (tVar i) (tC (.str x))) gd0 := by
  refine ⟨pe_ix (ix_dict hu) (pe_var hN hvi hd hcd) pe_str (fun _ _ => rfl), fun ρ σ F H fp Q p w r _ s1 fa _ q => ?_⟩
  obtain ⟨fv, hp, hl⟩ : ∃ fv, H p = some (.dK (recK fv)) ∧ fv.lookup x = some w := by
    rcases hs with rfl | ⟨q', rfl⟩ <;> exact fa
  have g := DGet.k (k := .inr x) hp
  rw [rec_val hl] at g
  exact ⟨.ref p, s1, p, w, rfl, g, q⟩
/-- a name for a field -/
theorem fr_ali {q : Addr} (i j k : Nat) (hk : ks[k]? = some (.alr q)) (hN : X.N[k]? = some y := by rfl)
    (hvi : Vis X.env.scope y := by first | exact Or.inl rfl | exact Or.inr (Or.inl rfl) | exact Or.inr (Or.inr rfl)) (hd : (y == ("__debug__" : Str)) = false := by decide) (hcd : (y == ("__classdict__" : Str)) = false := by decide) :
    FR X ks (.Name y p) i j (.rcq sf j q) x (tVar k) (gdK k) := by
  refine ⟨pe_var hN hvi hd hcd, fun ρ σ F H fp Q p w r n s1 _ al hq => ?_⟩
  unfold gdK at n
  cases e : own ρ k with
  | none => rw [e] at n; cases n
  | some d =>
    obtain ⟨v, f, g, s2, o, _, _⟩ := r.sl.split hk (getE e)
    rw [al sf q rfl] at hq
    cases o
    exact ⟨_, s2, hq⟩
/-! ### read -/
theorem ef_leaf (h : FR X ks e i j s x t gd0) (hk : ks[i]? = some s) (hs : holdS s = some sf) (hsj : sf[j]? = some (x, .leaf)) (nd : (sf.map Prod.fst).Nodup) : EV X ks W e .leaf t (mFd i j) := by
  refine ⟨h.pe, fun ρ σ F H fp Q r hok => ?_⟩
  unfold mFd at hok
  cases e1 : own ρ i with
  | none => rw [e1] at hok; exact (show False from hok).elim
  | some o =>
    cases e2 : fldD j o with
    | none => rw [e1, Option.bind_some, e2] at hok; exact (show False from hok).elim
    | some q =>
      rw [e1, Option.bind_some, e2] at hok
      obtain ⟨p, v, f0, _, s1, fa, o1, _, _, al, _⟩ := r.fldH hk hs hsj nd e1 (d0 := q.2) (y := q.1) e2
      obtain ⟨rp, rfl⟩ := o1.leafE
      exact h.rd ρ σ F H fp Q p v r rfl s1 fa al (hok v F H fp [] r (by rw [List.append_nil]; exact r.nd) (by rw [List.append_nil]; exact .refl) (.leaf rp))
theorem el_fr (h : FR X ks e i j s x t gd0) (hk : ks[i]? = some s) (hs : holdS s = some sf) (hsj : sf[j]? = some (x, s0)) (nd : (sf.map Prod.fst).Nodup) (hsh : s0 = .leaf ∨ s0 = .lst .leaf ∨ s0 = .dic .leaf) : EL X ks W e t (mFd i j) := by
  refine ⟨h.pe, fun ρ σ F H fp Q r hok => ?_⟩
  unfold mFd at hok
  cases e1 : own ρ i with
  | none => rw [e1] at hok; exact (show False from hok).elim
  | some o =>
    cases e2 : fldD j o with
    | none => rw [e1, Option.bind_some, e2] at hok; exact (show False from hok).elim
    | some q =>
      rw [e1, Option.bind_some, e2] at hok
      obtain ⟨p, v, f0, _, s1, fa, o1, _, _, al, _⟩ := r.fldH hk hs hsj nd e1 (d0 := q.2) (y := q.1) e2
      exact h.rd ρ σ F H fp Q p v r rfl s1 fa al (hok v F H fp r .refl (o1.vw hsh))
end
end VL
set_option maxHeartbeats 1000000
/-! V86: a field lent to a def or a method, asked by keys, changed by methods. -/
namespace VL
open PySem PySem.Spec L2
theorem recK_inj : ∀ {fv gv : List (Str × V)}, recK fv = recK gv → fv = gv
  | [], [], _ => rfl
  | [], _ :: _, h => by cases h
  | _ :: _, [], h => by cases h
  | (x, v) :: fv, (y, w) :: gv, h => by
    have h1 := (List.cons.inj h).1
    have h2 := recK_inj (fv := fv) (gv := gv) (List.cons.inj h).2
    cases h1
    rw [h2]
theorem FldAt.uniq {s : Sh} {H H' : Hp} {p : Addr} {x : Str} {v w : V} (h : FldAt s H p x v) (h' : FldAt s H' p x w) (e : H' p = H p) : v = w := by
  cases s with
  | ins C sf =>
    obtain ⟨dx, fv, a, b⟩ := h
    obtain ⟨dx', fv', a', b'⟩ := h'
    rw [e, a] at a'
    cases a'
    rw [b] at b'; cases b'; rfl
  | rcd sf =>
    obtain ⟨fv, a, b⟩ := h
    obtain ⟨fv', a', b'⟩ := h'
    rw [e, a] at a'
    rw [recK_inj (HO.dK.inj (Option.some.inj a')), b'] at b
    cases b; rfl
  | rcq sf j q =>
    obtain ⟨fv, a, b⟩ := h
    obtain ⟨fv', a', b'⟩ := h'
    rw [e, a] at a'
    rw [recK_inj (HO.dK.inj (Option.some.inj a')), b'] at b
    cases b; rfl
  | _ => exact h.elim
section
variable {K : PySem.W.Frag} {ks : List Sh} {F H : Hp} {ρ : DEnv} {σ : St} {fp : List Addr} {i : Nat} {s : Sh} {sf : List (Str × Sh)}
/-- hidden while another part is reckoned: the holder's own cell stays -/
theorem Rel.hideH {d : D} {p : Addr} (r : Rel K ks F H ρ σ fp) (hk : ks[i]? = some s) (hs : holdS s = some sf) (e : own ρ i = some d) (s1 : σ[i]? = some (some (.ref p))) :
    ∃ g, Rel K ks F H (ρ.set i none) σ g ∧ (∀ a ∈ g, a ∈ fp) ∧ ∀ {F1 H1 : Hp} {ρ1 : DEnv} {g1 : List Addr}, Rel K ks F1 H1 ρ1 σ g1 → Ext F H g F1 H1 g1 → H1 p = H p ∧ ∃ fp1, Rel K ks F1 H1 (ρ1.set i (some d)) σ fp1 ∧ Ext F H fp F1 H1 fp1 := by
  obtain ⟨v, f, g, s2, o1, rh, gin, back⟩ := r.hide hk (getE e)
  rw [s1] at s2
  cases s2
  obtain ⟨c, fd, p', fv, fi, os, ev, _, ef, pos, _⟩ := o1.hold hs
  cases ev
  refine ⟨g, rh, gin, fun {F1 H1 ρ1 g1} r1 x1 => ?_⟩
  obtain ⟨o2, fk, fpn, rn, xn⟩ := back r1 x1
  exact ⟨(fk p (by rw [ef]; exact List.mem_append_left _ pos)).2, fpn, rn, xn⟩
theorem own_set {d : D} {ρ1 : DEnv} (hk : ks[i]? = some s) (r : RelL K F H ks ρ1 σ fp) : own (ρ1.set i (some d)) i = some d := by
  have hi : i < ρ1.length := by
    have := (List.getElem?_eq_some_iff.mp hk).1
    rw [r.lens.1] at this; exact this
  unfold own
  rw [List.getElem?_set_self hi]; rfl
end
/-- what a call makes of a lent field -/
def outF (i j : Nat) (x : Str) (o : D) (ρ : DEnv) : R D → R D
  | .ok d [some d1] => .ok d (ρ.set i (some (withF j x d1 o)))
  | .ex e [some d1] => .ex e (ρ.set i (some (withF j x d1 o)))
  | _ => .no
def mCallF (gd : DEnv → Bool) (i j n : Nat) (g : List D → R D) (ma : MA) : ME := fun ρ => match own ρ i with
  | some o => (match fldD j o with
    | some q => if gd ρ = true then (ma (ρ.set i none)).bind fun ds ρ1 => if ds.length = n then outF i j q.1 o ρ1 (g (q.2 :: ds)) else .no else .no
    | none => .no)
  | none => .no
section
variable {X : Cx} {CX : CXT} {k n : Nat} {ks : List Sh} {W : WX} {e c : Expr} {es : List Expr} {i j : Nat} {s s0 rsh : Sh} {sf sfi : List (Str × Sh)} {x y m name : Str} {t tc : TE} {ta : TA} {ma : MA} {mc : ME} {p pos pos' apos cpos : Pos} {C : Addr} {gd : DEnv → Bool} {g : List D → R D}
/-- the callee's promise, from what it makes -/
theorem core_callF {b : Bd} {F H : Hp} {ρ : DEnv} {σ : St} {fp : List Addr} {Q : VK} {vs : List V} {ds : List D} {o d0 : D} {p : Addr} {v : V} (hW : b.W = W) (hk : b.ks[i]? = some s) (hs : holdS s = some sf) (hsj : sf[j]? = some (x, s0)) (nd : (sf.map Prod.fst).Nodup)
    (r : Rel b.K b.ks F H ρ σ fp) (e1 : own ρ i = some o) (e2 : fldD j o = some (y, d0)) (s1 : σ[i]? = some (some (.ref p))) (fa : FldAt s H p x v) (rs : Reps b.K F vs ds) (hn : ds.length = n) (h : OkE b rsh F H fp σ Q (outF i j y o ρ (g (d0 :: ds)))) :
    spV b.K b.mg (n + 1) (s0 :: leaves n) 1 rsh g (v :: vs) H Q (WE W σ) := by
  obtain ⟨p', v', f0, ey, s2, fa', o1, nd0, f0fp, _, back⟩ := r.fldH hk hs hsj nd e1 e2
  rw [s1] at s2
  cases s2
  subst ey
  have ev := fa.uniq fa' rfl
  subst ev
  have rl : RelL b.K F H (s0 :: leaves n) (some d0 :: ds.map some) (some v :: vs.map some) (f0 ++ []) := .som o1 (by rw [← hn]; exact relL_leaves rs)
  rw [List.append_nil] at rl
  refine ⟨by rw [List.length_cons, rs.length, hn], F, f0, d0 :: ds, ⟨r.sub, nd0, rl⟩, ?_⟩
  unfold outF at h
  cases eg : g (d0 :: ds) with
  | no => rw [eg] at h; exact h
  | ok d ρ' =>
    rw [eg] at h
    intro v' F' H' fp' fv r' nd' x' oo
    split at h
    · rename_i d' d1 q
      cases q
      have r0 := r'.sl
      rw [List.take_succ_cons, List.take_zero, List.take_succ_cons, List.take_zero] at r0
      cases r0 with
      | @som _ _ _ _ _ _ fz fz' oz rz =>
        cases rz
        rw [List.append_nil] at x' nd'
        obtain ⟨gp, q1, q2, q3, _⟩ := back r'.sub x' nd' oz
        exact h v' F' H' gp fv q1 q2 q3 oo
    · rename_i q
      cases q
    · exact (show False from h).elim
  | ex z ρ' =>
    rw [eg] at h
    intro cls dx F' H' fp' r' x' ex
    split at h
    · rename_i q
      cases q
    · rename_i e' d1 q
      cases q
      have r0 := r'.sl
      rw [List.take_succ_cons, List.take_zero, List.take_succ_cons, List.take_zero] at r0
      cases r0 with
      | @som _ _ _ _ _ _ fz fz' oz rz =>
        cases rz
        have nd' := r'.nd
        rw [List.append_nil] at x' nd'
        obtain ⟨gp, q1, _, q3, _⟩ := back (fx := []) r'.sub (by rw [List.append_nil]; exact x') (by rw [List.append_nil]; exact nd') oz
        rw [List.append_nil] at q3
        show W cls dx σ H'
        rw [← hW]
        exact h cls dx F' H' gp q1 q3 ex
    · exact (show False from h).elim
/-- f(holder.x, ..) -/
theorem ef_call {f : Str} (h : FR X ks e i j s x t gd) (c : Cl X CX k f (n + 1) (s0 :: leaves n) 1 rsh g) (hx : ∀ σ, PassesAt CX X σ (WE W σ)) (hr : Room k X.A) (hgd : X.A.guards = some []) (ha : EA X ks W es ta ma) (hk : ks[i]? = some s) (hs : holdS s = some sf) (hsj : sf[j]? = some (x, s0)) (nd : (sf.map Prod.fst).Nodup)
    (hg : Gl X f := by rfl) (hdb : (f == ("__debug__" : Str)) = false := by decide) (he : starEach (e :: es) X.env = (false, eval e X.env) :: starEach es X.env := by rfl) (hpl : (backTo pos (starEach es X.env)).any (·.1) = false := by rfl) :
    EV X ks W (.Call (.Name f p) (e :: es) [] pos) rsh (tCallS (spV X.K X.mg (n + 1) (s0 :: leaves n) 1 rsh g) (WE W) (tCons t ta)) (mCallF gd i j n g ma) := by
  obtain ⟨f', fd, ps, G, hm, hkk, hb⟩ := c.ex
  refine ⟨pe_callG G hr hgd hg hm hkk hb hx (pa_cons h.pe ha.pe he) hdb he hpl, fun ρ σ F H fp Q r hok => ?_⟩
  unfold mCallF at hok
  cases e1 : own ρ i with
  | none => rw [e1] at hok; exact (show False from hok).elim
  | some o =>
  rw [e1] at hok
  dsimp only at hok
  cases e2 : fldD j o with
  | none => rw [e2] at hok; exact (show False from hok).elim
  | some q =>
  rw [e2] at hok
  dsimp only at hok
  by_cases hgd2 : gd ρ = true
  · rw [if_pos hgd2] at hok
    obtain ⟨p0, v, f0, _, s1, fa, _, _, _, al, _⟩ := r.fldH hk hs hsj nd e1 (d0 := q.2) (y := q.1) e2
    refine h.rd ρ σ F H fp _ p0 v r hgd2 s1 fa al ?_
    obtain ⟨g1, rh, gin, back⟩ := r.hideH hk hs e1 s1
    refine ha.sd.go rh (Ok := OkE (bd X ks W) rsh F H fp σ Q) hok (fun z => z) (fun _ _ z cls dx F' H' fp' r' x' ex => z cls dx F' H' fp' r' (x'.weak gin) ex) fun ds ρ1 vs F1 H1 fp1 h1 r1 x1 p1 => ?_
    obtain ⟨hp, fpn, rn, xn⟩ := back r1 x1
    by_cases hn : ds.length = n
    · rw [if_pos hn] at h1
      have e3 := own_set (d := o) hk r1.sl
      obtain ⟨p2, v2, _, _, s2, fa2, _⟩ := rn.fldH hk hs hsj nd e3 (d0 := q.2) (y := q.1) e2
      rw [s1] at s2
      cases s2
      have ev := fa.uniq fa2 hp
      subst ev
      refine core_callF (b := bd X ks W) (o := o) (d0 := q.2) (y := q.1) rfl hk hs hsj nd rn e3 e2 s1 fa2 p1 hn ?_
      have h2 := OkE.ext xn h1
      unfold outF at h2 ⊢
      simp only [List.set_set]
      exact h2
    · rw [if_neg hn] at h1; exact (show False from h1).elim
  · rw [if_neg hgd2] at hok; exact (show False from hok).elim
theorem ef_meth0 (h : FR X ks e i j s x t gd) (cl : Cls X.K C) (c : Ml X CX k C m 1 [.ins C sfi] 1 rsh g) (hx : ∀ σ, PassesAt CX X σ (WE W σ)) (hr : Room k X.A) (hgd : X.A.guards = some []) (hk : ks[i]? = some s) (hs : holdS s = some sf) (hsj : sf[j]? = some (x, .ins C sfi)) (nd : (sf.map Prod.fst).Nodup) (nm : m ∉ sfi.map Prod.fst) {pl : Sem Bool}
    (ht : eval (.Call (.Attribute e m apos) [] [] pos) X.env = (do
      let ov ← eval e X.env
      standAt apos.atName
      let (f, first) ← holding [ov] (getMethod ov m pl)
      callWith pos f first (backTo pos (starEach [] X.env)) (backToKw pos (keywordEach [] X.env))) := by rfl) :
    EV X ks W (.Call (.Attribute e m apos) [] [] pos) rsh (tMethG C m (spV X.K X.mg 1 [.ins C sfi] 1 rsh g) (WE W) t tNil) (mCallF gd i j 0 g mNil) := by
  obtain ⟨f', fd, ps, G, hm, hb⟩ := c.ex
  refine ⟨pe_methG0 h.pe cl hm G hr hgd hb hx ht, fun ρ σ F H fp Q r hok => ?_⟩
  unfold mCallF at hok
  cases e1 : own ρ i with
  | none => rw [e1] at hok; exact (show False from hok).elim
  | some o =>
  rw [e1] at hok
  dsimp only at hok
  cases e2 : fldD j o with
  | none => rw [e2] at hok; exact (show False from hok).elim
  | some q =>
  obtain ⟨y0, dd⟩ := q
  rw [e2] at hok
  dsimp only at hok
  by_cases hgd2 : gd ρ = true
  · rw [if_pos hgd2] at hok
    obtain ⟨p0, v, f0, _, s1, fa, o1, _, _, al, _⟩ := r.fldH hk hs hsj nd e1 (d0 := dd) (y := y0) e2
    refine h.rd ρ σ F H fp _ p0 v r hgd2 s1 fa al ?_
    have tail : spV X.K X.mg 1 [.ins C sfi] 1 rsh g [v] H Q (WE W σ) := by
      refine core_callF (b := bd X ks W) (n := 0) (vs := []) (ds := []) (o := o) (d0 := dd) (y := y0) rfl hk hs hsj nd r e1 e2 s1 fa .nil rfl ?_
      have h2 : OkE (bd X ks W) rsh F H fp σ Q (outF i j y0 o (ρ.set i none) (g [dd])) := hok
      unfold outF at h2 ⊢
      simp only [List.set_set] at h2
      exact h2
    cases o1 with
    | @ins _ a dx c0 _ fv fd2 fp0 n1 n2 h1 h2 of =>
      obtain ⟨m1, rr, m2⟩ := of.names
      exact ⟨a, dx, fv, rfl, h1, fv_no fun z => nm (by rw [m1] at z; rw [m2]; exact List.mem_append_left _ z), tail⟩
  · rw [if_neg hgd2] at hok; exact (show False from hok).elim
end
end VL
set_option maxHeartbeats 1000000
/-! V87: fields asked by keys, changed by methods of lists and dicts, put. -/
namespace VL
open PySem PySem.Spec L2
theorem ext_upd {F H : Hp} {q : Addr} {o : HO} : Ext F H [q] F (upd H q o) ([q] ++ []) := ⟨fun a o' e n => ⟨(upd_ne fun z => n (by rw [z]; exact List.mem_singleton.mpr rfl)).trans e, rfl⟩, fun a m => .inl (by simpa using m)⟩
def dropKD (ds : List (Key × D)) (k : Key) : List (Key × D) := ds.filter fun kv => decide (kv.1 ≠ k)
theorem drop_relK {K : PySem.W.Frag} {F : Hp} (k : Key) : ∀ {kvs : List (Key × V)} {ds : List (Key × D)}, kvs.map Prod.fst = ds.map Prod.fst → Reps K F (kvs.map Prod.snd) (ds.map Prod.snd) →
    (dropK kvs k).map Prod.fst = (dropKD ds k).map Prod.fst ∧ Reps K F ((dropK kvs k).map Prod.snd) ((dropKD ds k).map Prod.snd)
  | [], [], _, _ => ⟨rfl, .nil⟩
  | [], _ :: _, e, _ => by cases e
  | _ :: _, [], e, _ => by cases e
  | (a, v) :: kvs, (b, d) :: ds, e, r => by
    have e1 : a = b := (List.cons.inj e).1
    subst e1
    cases r with
    | cons r1 r2 =>
      obtain ⟨h1, h2⟩ := drop_relK k (kvs := kvs) (ds := ds) (List.cons.inj e).2 r2
      unfold dropK dropKD at *
      rw [List.filter_cons, List.filter_cons]
      by_cases q : a ≠ k
      · rw [if_pos (decide_eq_true q), if_pos (decide_eq_true q), List.map_cons, List.map_cons, List.map_cons, List.map_cons, h1]
        exact ⟨rfl, .cons r1 h2⟩
      · rw [if_neg (by simpa using q), if_neg (by simpa using q)]
        exact ⟨h1, h2⟩
section
variable {X : Cx} {ks : List Sh} {W : WX} {e c value : Expr} {es : List Expr} {i j : Nat} {s s0 sh rsh : Sh} {sf : List (Str × Sh)} {x y name : Str} {t tc tv : TE} {ta : TA} {ma : MA} {mc mv : ME} {p pos pos' p3 apos cpos : Pos} {fx : Nat} {id : String} {r : V → List V → Hp → VK → Prop} {f : List D → List D → Option (D × List D)}
/-- a list or a dict that a field holds, and what stands behind its change -/
theorem Rel.fldC {b : Bd} {F H : Hp} {ρ : DEnv} {σ : St} {fp : List Addr} {o d0 : D} (r : Rel b.K b.ks F H ρ σ fp) (hk : b.ks[i]? = some s) (hs : holdS s = some sf) (hsj : sf[j]? = some (x, s0)) (nd : (sf.map Prod.fst).Nodup) (e1 : own ρ i = some o) (e2 : fldD j o = some (y, d0)) :
    ∃ p v, y = x ∧ σ[i]? = some (some (.ref p)) ∧ FldAt s H p x v ∧ (∀ sf' q, s = .rcq sf' j q → v = .ref q) ∧
      (∀ ds, s0 = .lst .leaf → d0 = .lst ds → ∃ q vs, v = .ref q ∧ F q = none ∧ H q = some (.lst vs) ∧ Reps b.K F vs ds ∧ ∀ vs' ds', Reps b.K F vs' ds' → ∃ gp, Rel b.K b.ks F (upd H q (.lst vs')) (ρ.set i (some (withF j x (.lst ds') o))) σ gp ∧ Ext F H fp F (upd H q (.lst vs')) gp) ∧
      (∀ ds, s0 = .dic .leaf → d0 = .dK ds → ∃ q kvs, v = .ref q ∧ F q = none ∧ H q = some (.dK kvs) ∧ kvs.map Prod.fst = ds.map Prod.fst ∧ Reps b.K F (kvs.map Prod.snd) (ds.map Prod.snd) ∧ ∀ kvs' ds', kvs'.map Prod.fst = ds'.map Prod.fst → Reps b.K F (kvs'.map Prod.snd) (ds'.map Prod.snd) → ∃ gp, Rel b.K b.ks F (upd H q (.dK kvs')) (ρ.set i (some (withF j x (.dK ds') o))) σ gp ∧ Ext F H fp F (upd H q (.dK kvs')) gp) := by
  obtain ⟨p, v, f0, ey, s1, fa, o1, nd0, _, al, back⟩ := r.fldH hk hs hsj nd e1 e2
  refine ⟨p, v, ey, s1, fa, al, fun ds z1 z2 => ?_, fun ds z1 z2 => ?_⟩
  · subst z1 z2
    cases o1 with
    | @lst _ q vs _ fp3 nq hq rk =>
      obtain ⟨rk2, rfl⟩ := rk.leafE
      refine ⟨q, vs, rfl, nq, hq, rk2, fun vs' ds' rk' => ?_⟩
      obtain ⟨gp, r2, _, x2, _⟩ := back (F' := F) (H' := upd H q (.lst vs')) (d1 := .lst ds') (f1 := [q]) (fx := []) (sub_updH r.sub nq (by intro _ z; cases z)) ext_upd (by simp) (.lst nq upd_same (ORs.ofReps rk'))
      rw [List.append_nil] at x2
      exact ⟨gp, r2, x2⟩
  · subst z1 z2
    cases o1 with
    | @dK _ q kvs _ fp3 nq hq ek rk =>
      obtain ⟨rk2, rfl⟩ := rk.leafE
      refine ⟨q, kvs, rfl, nq, hq, ek, rk2, fun kvs' ds' ek' rk' => ?_⟩
      obtain ⟨gp, r2, _, x2, _⟩ := back (F' := F) (H' := upd H q (.dK kvs')) (d1 := .dK ds') (f1 := [q]) (fx := []) (sub_updH r.sub nq (by intro _ z; cases z)) ext_upd (by simp) (.dK nq upd_same ek' (ORs.ofReps rk'))
      rw [List.append_nil] at x2
      exact ⟨gp, r2, x2⟩
/-! ### holder.x[k] -/
theorem ef_ix {r : R2} (ho : IxR X r) (hop : Op2 X.K sh r ixD) (h : FR X ks e i j s x t gd0) (hc : EV X ks W c .leaf tc mc) (hk : ks[i]? = some s) (hs : holdS s = some sf) (hsj : sf[j]? = some (x, s0)) (nd : (sf.map Prod.fst).Nodup) (hsh : s0 = .leaf ∨ s0 = .lst .leaf ∨ s0 = .dic .leaf) (hx : PlainIx c := by exact fun _ _ => rfl) :
    EV X ks W (.Subscript e c pos') sh (tOp r t tc) (mFix i j mc) := by
  refine ⟨pe_ix ho h.pe hc.pe hx, fun ρ σ F H fp Q r0 hok => ?_⟩
  unfold mFix at hok
  cases e1 : own ρ i with
  | none => rw [e1] at hok; exact (show False from hok).elim
  | some o =>
    rw [e1] at hok
    dsimp only at hok
    cases e2 : fldD j o with
    | none => rw [e2] at hok; exact (show False from hok).elim
    | some q =>
      rw [e2] at hok
      dsimp only at hok
      obtain ⟨p0, v, f0, _, s1, fa, _, _, _, al, _⟩ := r0.fldH hk hs hsj nd e1 (d0 := q.2) (y := q.1) e2
      refine h.rd ρ σ F H fp _ p0 v r0 rfl s1 fa al ?_
      obtain ⟨g1, rh, gin, back⟩ := r0.hideH hk hs e1 s1
      refine hc.sd.go rh (Ok := OkE (bd X ks W) sh F H fp σ Q) hok (fun z => z) (fun _ _ z cls dx F' H' fp' r' x' ex => z cls dx F' H' fp' r' (x'.weak gin) ex) fun kd ρ1 u F1 H1 fp1 h1 r1 x1 p1 => ?_
      obtain ⟨hp, fpn, rn, xn⟩ := back r1 x1
      cases e3 : ixD q.2 kd with
      | none => rw [e3] at h1; exact (show False from h1).elim
      | some z =>
        rw [e3] at h1
        have e4 := own_set (d := o) hk r1.sl
        obtain ⟨p2, v2, f2, _, s2, fa2, o2, _⟩ := rn.fldH hk hs hsj nd e4 (d0 := q.2) (y := q.1) e2
        rw [s1] at s2
        cases s2
        have ev := fa.uniq fa2 hp
        subst ev
        exact hop F1 H1 v u q.2 kd z Q rn.sub (o2.vw hsh) (.rep p1) e3 ((OkE.ext xn h1).done rn)
/-! ### holder.x.m(..), x a list -/
def mMtH (i j : Nat) (f : List D → List D → Option (D × List D)) (args : MA) : ME := fun ρ => match own ρ i with
  | some o => (match fldD j o with
    | some (x, .lst ds) => (args (ρ.set i none)).bind fun es ρ1 => (match f ds es with | some (z, ds') => .ok z (ρ1.set i (some (withF j x (.lst ds') o))) | none => .no)
    | _ => .no)
  | none => .no
theorem sd_mtH {b : Bd} {pt : TE} {Ty : V → Hp → Prop} (hTy : ∀ q vs H, H q = some (.lst vs) → Ty (.ref q) H) (rd : ∀ ρ σ F H fp Q p w, Rel b.K b.ks F H ρ σ fp → σ[i]? = some (some (.ref p)) → FldAt s H p x w → (∀ sf' q, s = .rcq sf' j q → w = .ref q) → Q w H → pt σ H Q) (hr : MtL b.K r f) (ha : SndA b ta ma)
    (hk : b.ks[i]? = some s) (hs : holdS s = some sf) (hsj : sf[j]? = some (x, .lst .leaf)) (nd : (sf.map Prod.fst).Nodup) : SndE b .leaf (fun σ H Q => pt σ H fun v H1 => Ty v H1 ∧ ta σ H1 fun xs H2 => r v xs H2 Q) (mMtH i j f ma) := by
  intro ρ σ F H fp Q r0 hok
  unfold mMtH at hok
  cases e1 : own ρ i with
  | none => rw [e1] at hok; exact (show False from hok).elim
  | some o =>
    rw [e1] at hok
    dsimp only at hok
    split at hok
    · rename_i y ds e2
      obtain ⟨p0, v, ey, s1, fa, al, hl, _⟩ := r0.fldC hk hs hsj nd e1 e2
      obtain ⟨q, vs, rfl, nq, hq, rk, _⟩ := hl ds rfl rfl
      refine rd ρ σ F H fp _ p0 _ r0 s1 fa al ⟨hTy q vs H hq, ?_⟩
      obtain ⟨g1, rh, gin, back⟩ := r0.hideH hk hs e1 s1
      refine ha.go rh (Ok := OkE b .leaf F H fp σ Q) hok (fun z => z) (fun _ _ z cls dx F' H' fp' r' x' ex => z cls dx F' H' fp' r' (x'.weak gin) ex) fun es ρ1 xs F1 H1 fp1 h1 r1 x1 p1 => ?_
      obtain ⟨hp, fpn, rn, xn⟩ := back r1 x1
      split at h1
      · rename_i z ds' ef
        have e4 := own_set (d := o) hk r1.sl
        obtain ⟨p2, v2, _, s2, fa2, _, hl2, _⟩ := rn.fldC hk hs hsj nd e4 e2
        rw [s1] at s2
        cases s2
        have ev := fa.uniq fa2 hp
        subst ev
        obtain ⟨q2, vs2, eq, nq2, hq2, rk2, step⟩ := hl2 ds rfl rfl
        cases eq
        refine hr F1 H1 q vs2 ds xs es z ds' Q rn.sub nq2 hq2 rk2 p1 ef fun u ws q4 rv => ?_
        obtain ⟨gp, r5, x5⟩ := step ws ds' q4
        rw [List.set_set] at r5
        subst ey
        exact (OkE.ext xn h1) u F1 _ gp [] r5 (by rw [List.append_nil]; exact r5.nd) (by rw [List.append_nil]; exact x5) (.leaf rv)
      · exact (show False from h1).elim
    · exact (show False from hok).elim
theorem ef_mtL {es' : Expr} (h : FR X ks e i j s x t gd0) (slot : Slot "list" name id) (hty : typeOf (.builtin id) = pure (.type "method_descriptor")) (rule : MtM X id r) (hr : MtL X.K r f) (ha : EA X ks W (es' :: es) ta ma) (hk : ks[i]? = some s) (hs : holdS s = some sf) (hsj : sf[j]? = some (x, .lst .leaf)) (nd : (sf.map Prod.fst).Nodup)
    (hbase : attributeBase e name X.env (eval e X.env) = eval e X.env := by rfl)
    (hfew : ((backTo cpos (starEach (es' :: es) X.env)).all (fun x => !x.1) && (backToKw cpos (keywordEach [] X.env)).all (fun x => x.1.isSome)
      && decide ((es' :: es).length + ([] : List Keyword).length + (if ([] : List Keyword).isEmpty then 0 else 1) < 30)) = true := by rfl)
    (hline : (apos.endLine == cpos.line) = true := by rfl) (hst : starEach (es' :: es) X.env = (false, eval es' X.env) :: starEach es X.env := by rfl) (hplain : (backTo cpos (starEach es X.env)).any (·.1) = false := by rfl) :
    EV X ks W (.Call (.Attribute e name apos) (es' :: es) [] cpos) .leaf (tBM X.K "list" r t ta) (mMtH i j f ma) :=
  ⟨pe_bm PySem.F.plainAttrs_list slot hty rule h.pe ha.pe hbase hfew hline hst hplain, sd_mtH (b := bd X ks W) (Ty := fun v H => tyV X.K "list" v H) (fun q vs H hq => .inl ⟨rfl, _, .of hq⟩) (fun ρ σ F H fp Q p w r s1 fa al q => h.rd ρ σ F H fp Q p w r rfl s1 fa al q) hr ha.sd hk hs hsj nd⟩
theorem ef_mtL0 (h : FR X ks e i j s x t gd0) (slot : Slot "list" name id) (hty : typeOf (.builtin id) = pure (.type "method_descriptor")) (rule : MtM X id r) (hr : MtL X.K r f) (hk : ks[i]? = some s) (hs : holdS s = some sf) (hsj : sf[j]? = some (x, .lst .leaf)) (nd : (sf.map Prod.fst).Nodup)
    (hbase : attributeBase e name X.env (eval e X.env) = eval e X.env := by rfl) (hline : (apos.endLine == cpos.line) = true := by rfl) :
    EV X ks W (.Call (.Attribute e name apos) [] [] cpos) .leaf (tBM0 X.K "list" r t) (mMtH i j f mNil) :=
  ⟨pe_bm0 PySem.F.plainAttrs_list slot hty rule h.pe hbase hline, sd_mtH (b := bd X ks W) (ta := tNil) (Ty := fun v H => tyV X.K "list" v H) (fun q vs H hq => .inl ⟨rfl, _, .of hq⟩) (fun ρ σ F H fp Q p w r s1 fa al q => h.rd ρ σ F H fp Q p w r rfl s1 fa al q) hr (fun ρ σ F H fp Q r hok => hok [] F H fp r .refl .nil) hk hs hsj nd⟩
/-! ### holder.x.pop(k), x a dict -/
def mPopH (i j : Nat) (mc : ME) : ME := fun ρ => match own ρ i with
  | some o => (match fldD j o with
    | some (x, .dK ds) => (mc (ρ.set i none)).bind fun kd ρ1 => (match keyK kd with
      | some q => (match look ds q with | some z => .ok z (ρ1.set i (some (withF j x (.dK (dropKD ds q)) o))) | none => .no)
      | none => .no)
    | _ => .no)
  | none => .no
theorem ef_popD (h : FR X ks e i j s x t gd0) (hc : EV X ks W c .leaf tc mc) (hk : ks[i]? = some s) (hs : holdS s = some sf) (hsj : sf[j]? = some (x, .dic .leaf)) (nd : (sf.map Prod.fst).Nodup)
    (m1 : attributeBase e "pop" X.env (eval e X.env) = eval e X.env := by rfl)
    (m2 : ((backTo cpos (starEach [c] X.env)).all (fun x => !x.1) && (backToKw cpos (keywordEach [] X.env)).all (fun x => x.1.isSome)
    && decide (([c] : List Expr).length + ([] : List Keyword).length + (if ([] : List Keyword).isEmpty then 0 else 1) < 30)) = true := by rfl)
    (m3 : (apos.endLine == cpos.line) = true := by rfl) (m4 : backTo cpos (starEach [c] X.env) = [(false, eval c X.env)] := by rfl) :
    EV X ks W (.Call (.Attribute e "pop" apos) [c] [] cpos) .leaf (tDPop1 t tc) (mPopH i j mc) := by
  refine ⟨pe_dpop1 h.pe hc.pe ⟨m1, m2, m3, m4⟩, fun ρ σ F H fp Q r0 hok => ?_⟩
  unfold mPopH at hok
  cases e1 : own ρ i with
  | none => rw [e1] at hok; exact (show False from hok).elim
  | some o =>
    rw [e1] at hok
    dsimp only at hok
    split at hok
    · rename_i y ds e2
      obtain ⟨p0, v, ey, s1, fa, al, _, hl⟩ := r0.fldC hk hs hsj nd e1 e2
      obtain ⟨q, kvs, rfl, nq, hq, ek, rk, _⟩ := hl ds rfl rfl
      refine h.rd ρ σ F H fp _ p0 _ r0 rfl s1 fa al ⟨q, rfl, .inl ⟨_, .of hq⟩, ?_⟩
      obtain ⟨g1, rh, gin, back⟩ := r0.hideH hk hs e1 s1
      refine hc.sd.go rh (Ok := OkE (bd X ks W) .leaf F H fp σ Q) hok (fun z => z) (fun _ _ z cls dx F' H' fp' r' x' ex => z cls dx F' H' fp' r' (x'.weak gin) ex) fun kd ρ1 u F1 H1 fp1 h1 r1 x1 p1 => ?_
      obtain ⟨hp, fpn, rn, xn⟩ := back r1 x1
      split at h1
      · rename_i qk e5
        split at h1
        · rename_i z e6
          have e4 := own_set (d := o) hk r1.sl
          obtain ⟨p2, v2, _, s2, fa2, _, _, hl2⟩ := rn.fldC hk hs hsj nd e4 e2
          rw [s1] at s2
          cases s2
          have ev := fa.uniq fa2 hp
          subst ev
          obtain ⟨q2, kvs2, eq, nq2, hq2, ek2, rk2, step⟩ := hl2 ds rfl rfl
          cases eq
          obtain ⟨_, lk⟩ := look_val qk ek2 rk2
          obtain ⟨w, lw, rw'⟩ := lk z e6
          obtain ⟨d1, d2⟩ := drop_relK qk ek2 rk2
          obtain ⟨gp, r5, x5⟩ := step _ _ d1 d2
          rw [List.set_set] at r5
          subst ey
          refine ⟨kvs2, qk, w, hq2, keyKE (F := F1) (H := F1) (.rep p1) e5, lw, ?_⟩
          exact (OkE.ext xn h1) w F1 _ gp [] r5 (by rw [List.append_nil]; exact r5.nd) (by rw [List.append_nil]; exact x5) (.leaf rw')
        · exact (show False from h1).elim
      · exact (show False from h1).elim
    · exact (show False from hok).elim
/-! ### holder.x[k] = v -/
def mPutH (i j : Nat) (mc mv : ME) : MS := fun ρ => (mv ρ).bind fun v ρ1 => match own ρ1 i with
  | some o => (match fldD j o with
    | some (x, .dK ds) => (mc (ρ1.set i none)).bind fun k ρ2 => (match keyK k with
      | some q => if ds.length < 16777216 then .ok .nx (ρ2.set i (some (withF j x (.dK (put ds q v)) o))) else .no
      | none => .no)
    | _ => .no)
  | none => .no
theorem ef_put (hu : X.A.units + 1 < cLine) (h : FR X ks e i j s x t gd0) (hc : EV X ks W c .leaf tc mc) (hv : EV X ks W value .leaf tv mv) (hk : ks[i]? = some s) (hs : holdS s = some sf) (hsj : sf[j]? = some (x, .dic .leaf)) (nd : (sf.map Prod.fst).Nodup)
    (hsw : swapsWith value (some (.Subscript e c pos)) p3.line X.env = pure false := by rfl) : SV X ks W rsh fx (.Assign [.Subscript e c pos] value p3) (sDPut t tc tv) (mPutH i j mc mv) := by
  refine ⟨ps_dput hu h.pe hc.pe hv.pe hsw, fun ρ σ F H fp D r hok => ?_⟩
  unfold mPutH at hok
  refine hv.sd.go r (Ok := OkS (bd X ks W) rsh fx F H fp σ D) hok (fun z => z) (fun _ _ z => z.x) fun w ρ1 v F1 H1 fp1 h1 r1 x1 p1 => ?_
  cases e1 : own ρ1 i with
  | none => rw [e1] at h1; exact (show False from h1).elim
  | some o =>
  rw [e1] at h1
  dsimp only at h1
  split at h1
  · rename_i y ds e2
    obtain ⟨p0, v0, ey, s1, fa, al, _, hl⟩ := r1.fldC hk hs hsj nd e1 e2
    refine h.rd ρ1 σ F1 H1 fp1 _ p0 _ r1 rfl s1 fa al ?_
    obtain ⟨g1, rh, gin, back⟩ := r1.hideH hk hs e1 s1
    have h1' := h1.ext x1 rfl
    refine hc.sd.go rh (Ok := OkS (bd X ks W) rsh fx F1 H1 fp1 σ D) h1' (fun z => z) (fun _ _ z => OkX.wk z.x gin) fun kd ρ2 u F2 H2 fp2 h2 r2 x2 p2 => ?_
    obtain ⟨hp, fpn, rn, xn⟩ := back r2 x2
    have p1' := p1.mono (rh.same x2)
    split at h2
    · rename_i qk e5
      by_cases hl' : ds.length < 16777216
      · rw [if_pos hl'] at h2
        have e4 := own_set (d := o) hk r2.sl
        obtain ⟨p2', v2, _, s2, fa2, _, _, hl2⟩ := rn.fldC hk hs hsj nd e4 e2
        rw [s1] at s2
        cases s2
        have ev := fa.uniq fa2 hp
        subst ev
        obtain ⟨q2, kvs2, eq, nq2, hq2, ek2, rk2, step⟩ := hl2 ds rfl rfl
        subst eq
        obtain ⟨gp, r5, x5⟩ := step _ _ (put_keys qk v w ek2) (put_reps qk p1' ek2 rk2)
        rw [List.set_set] at r5
        subst ey
        refine ⟨q2, _, rfl, ?_, (h2.ext xn rfl) σ F2 _ gp r5 x5 rfl⟩
        rw [keyKE (F := F2) (H := F2) (.rep p2) e5]
        exact DPut.k hq2 (by rw [put_len qk v w ek2, sizeLine_eq]; exact hl')
      · rw [if_neg hl'] at h2; exact (show False from h2).elim
    · exact (show False from h2).elim
  · exact (show False from h1).elim
/-! ### d["f"] = v -/
theorem rec_put {v : V} : ∀ {fv : List (Str × V)} {j : Nat}, (fv.map Prod.fst).Nodup → (∃ w, fv[j]? = some (x, w)) → putK (recK fv) (.inr x) v = recK (fv.set j (x, v)) := by
  intro fv j nd ⟨w, hw⟩
  have key : ∀ (fv : List (Str × V)) (j : Nat), (fv.map Prod.fst).Nodup → fv[j]? = some (x, w) → ((recK fv).map fun kv => if kv.1 = Sum.inr x then (kv.1, v) else kv) = recK (fv.set j (x, v)) ∧ ((recK fv).any fun kv => decide (kv.1 = Sum.inr x)) = true := by
    intro fv
    induction fv with
    | nil => intro j _ h; simp at h
    | cons q fv ih =>
      obtain ⟨y, u⟩ := q
      intro j nd h
      rw [List.map_cons, List.nodup_cons] at nd
      cases j with
      | zero =>
        simp at h
        obtain ⟨rfl, rfl⟩ := h
        have no : ∀ kv ∈ recK fv, kv.1 ≠ Sum.inr y := fun kv m z => by
          obtain ⟨q, mq, rfl⟩ := List.mem_map.mp m
          exact nd.1 (List.mem_map.mpr ⟨q, mq, Sum.inr.inj z⟩)
        refine ⟨?_, by unfold recK; rw [List.map_cons, List.any_cons, decide_eq_true (by rfl)]; rfl⟩
        show _ = (Sum.inr y, v) :: recK fv
        unfold recK
        rw [List.map_cons, List.map_cons, if_pos rfl]
        congr 1
        refine (List.map_congr_left fun kv m => if_neg (no kv m)).trans (List.map_id _)
      | succ j =>
        have h' : fv[j]? = some (x, w) := by simpa using h
        obtain ⟨i1, i2⟩ := ih j nd.2 h'
        have m : x ∈ fv.map Prod.fst := List.mem_map.mpr ⟨(x, w), List.mem_of_getElem? h', rfl⟩
        have ne : ¬ (Sum.inr y : Key) = Sum.inr x := fun z => nd.1 (by rw [Sum.inr.inj z]; exact m)
        refine ⟨?_, ?_⟩
        · show _ = (Sum.inr y, u) :: recK (fv.set j (x, v))
          rw [← i1]
          unfold recK
          rw [List.map_cons, List.map_cons, if_neg ne]
        · unfold recK at i2 ⊢
          rw [List.map_cons, List.any_cons, i2, Bool.or_true]
  obtain ⟨k1, k2⟩ := key fv j nd hw
  unfold putK
  rw [k2, if_pos rfl]
  exact k1
def setFd (j : Nat) (x : Str) (d : D) : D → Option D
  | .ob c fs => if j < fs.length then some (.ob c (fs.set j (x, d))) else none
  | _ => none
def mRset (i j : Nat) (x : Str) (m : ME) : MS := fun ρ => (m ρ).bind fun d ρ1 => (R.of ((own ρ1 i).bind (setFd j x d)) ρ1).bind fun o ρ2 => .ok .nx (ρ2.set i (some o))
theorem sv_rset (i j : Nat) {m : ME} (hu : X.A.units + 1 < cLine) (hv : EV X ks W value s0 tv m) (hk : ks[i]? = some (.rcd sf)) (hsj : sf[j]? = some (x, s0)) (nd : (sf.map Prod.fst).Nodup) (hlen : sf.length < 1000) (hN : X.N[i]? = some y := by rfl)
    (hvi : Vis X.env.scope y := by first | exact Or.inl rfl | exact Or.inr (Or.inl rfl) | exact Or.inr (Or.inr rfl)) (hd : (y == ("__debug__" : Str)) = false := by decide) (hcd : (y == ("__classdict__" : Str)) = false := by decide) {jj} {p2 : Pos}
    (hsw : swapsWith value (some (.Subscript (.Name y p) (.Constant (.str x) jj p2) pos)) p3.line X.env = pure false := by rfl) :
    SV X ks W rsh fx (.Assign [.Subscript (.Name y p) (.Constant (.str x) jj p2) pos] value p3) (sDPut (tVar i) (tC (.str x)) tv) (mRset i j x m) := by
  refine ⟨ps_dput hu (pe_var hN hvi hd hcd) pe_str hv.pe hsw, fun ρ σ F H fp D r hok => ?_⟩
  unfold mRset at hok
  refine hv.sd ρ σ F H fp _ r ?_
  cases em : m ρ with
  | no => rw [em] at hok; exact (show False from hok).elim
  | ex x ρ1 => rw [em] at hok; exact hok.x
  | ok d ρ1 =>
  rw [em] at hok
  intro v F1 H1 fp1 fw r1 nd1 x1 o1
  have hok : OkS (bd X ks W) rsh fx F H fp σ D ((R.of ((own ρ1 i).bind (setFd j x d)) ρ1).bind fun o ρ2 => .ok .nx (ρ2.set i (some o))) := hok
  cases e1 : own ρ1 i with
  | none => rw [e1] at hok; exact (show False from hok).elim
  | some o =>
  cases e2 : setFd j x d o with
  | none => rw [e1, Option.bind_some, e2] at hok; exact (show False from hok).elim
  | some o' =>
  rw [e1, Option.bind_some, e2] at hok
  obtain ⟨v0, f, g', s1, o2, sl, pm⟩ := r1.sl.split hk (getE e1)
  cases o2 with
  | @rcd p0 c _ fv fd fi np hp of =>
    unfold setFd at e2
    dsimp only at e2
    have lfd : fd.length ≤ sf.length := of.len.2
    by_cases hj : j < fd.length
    · rw [if_pos hj] at e2
      cases e2
      obtain ⟨⟨y', d0⟩, e3⟩ : ∃ q, fd[j]? = some q := ⟨_, List.getElem?_eq_getElem hj⟩
      obtain ⟨s', w, f0, g, h1, h2, h3, h4, h5⟩ := of.at_ e3
      rw [hsj] at h1
      cases h1
      have ndA := List.nodup_append.mp (pm.nodup_iff.mp r1.nd)
      obtain ⟨pfi, ndfi⟩ := List.nodup_cons.mp ndA.1
      have ndg := List.nodup_append.mp (h4.nodup_iff.mp ndfi)
      have nda := List.nodup_append.mp nd1
      have pin : p0 ∈ fp1 := pm.symm.subset (List.mem_append_left _ List.mem_cons_self)
      have fiin : ∀ a ∈ fi, a ∈ fp1 := fun a m => pm.symm.subset (List.mem_append_left _ (List.mem_cons_of_mem _ m))
      have gin : ∀ a ∈ g', a ∈ fp1 := fun a m => pm.symm.subset (List.mem_append_right _ m)
      have fwn : ∀ a ∈ fw, a ∉ fp1 := fun a m q => nda.2.2 a q a m rfl
      have pfw : p0 ∉ fw := fun m => fwn p0 m pin
      obtain ⟨H', eH⟩ : ∃ H', H' = upd H1 p0 (.dK (recK (fv.set j (x, v)))) := ⟨_, rfl⟩
      have keep : ∀ a, a ≠ p0 → H' a = H1 a := fun a n => by rw [eH]; exact upd_ne n
      have sb : Sub F1 H' := by rw [eH]; exact sub_updH r1.sub np (by intro _ z; cases z)
      have gfi : ∀ a ∈ g, a ∈ fi := fun a m => h4.symm.subset (List.mem_append_right _ m)
      have ow : OR X.K F1 H' s0 v d fw := o1.frame (fun _ _ z => z) fun a m => ⟨(o1.own a m).1, keep a fun z => pfw (z ▸ m)⟩
      obtain ⟨fi', q1, q2⟩ := h5 (F' := F1) (H' := H') (v' := v) (d' := d) (f' := fw) (fun _ _ z => z) (fun a m => ⟨(of.own a (gfi a m)).1, keep a fun z => pfi (by rw [← z]; exact gfi a m)⟩) ow
      have o3 : OR X.K F1 H' (.rcd sf) (.ref p0) (.ob c (fd.set j (x, d))) (p0 :: fi') := .rcd np (by rw [eH]; exact upd_same) q1
      have sl2 : RelL X.K F1 H' ks (ρ1.set i none) σ g' := sl.frame (fun _ _ z => z) fun a m => ⟨(sl.own a m).1, keep a fun z => ndA.2.2 p0 List.mem_cons_self a m z.symm⟩
      obtain ⟨gp, j1, j2⟩ := RelL.join o3 sl2 hk s1
      have fi'n : fi'.Nodup := q2.nodup_iff.mpr (List.nodup_append.mpr ⟨nda.2.1, ndg.2.1, fun a m b q z => fwn a m (fiin a (z ▸ gfi b q))⟩)
      have infi' : ∀ a ∈ fi', a ∈ fw ∨ a ∈ fi := fun a m => (List.mem_append.mp (q2.subset m)).imp id (gfi a)
      have ndp : (p0 :: fi').Nodup := List.nodup_cons.mpr ⟨fun m => (infi' p0 m).elim pfw pfi, fi'n⟩
      refine ⟨.ref p0, s1, p0, _, rfl, DPut.k (k := .inr x) hp (by unfold recK; rw [List.length_map, of.len.1, sizeLine_eq]; omega), ?_⟩
      · rw [rec_put (of.nd nd) ⟨w, h2⟩, ← eH]
        refine hok σ F1 H' gp ⟨sb, j2.nodup_iff.mpr (List.nodup_append.mpr ⟨ndp, ndA.2.1, fun a m b q z => ?_⟩), j1⟩ (x1.trans ⟨fun a u hu n => ?_, fun a m => .inl ?_⟩) rfl
        · subst z
          rcases List.mem_cons.mp m with rfl | m
          · exact ndA.2.2 a List.mem_cons_self a q rfl
          · rcases infi' a m with m | m
            · exact fwn a m (gin a q)
            · exact ndA.2.2 a (List.mem_cons_of_mem _ m) a q rfl
        · exact ⟨(keep a fun z => n (List.mem_append_left _ (z ▸ pin))).trans hu, rfl⟩
        · rcases List.mem_append.mp (j2.subset m) with m | m
          · rcases List.mem_cons.mp m with rfl | m
            · exact List.mem_append_left _ pin
            · rcases infi' a m with m | m
              · exact List.mem_append_right _ m
              · exact List.mem_append_left _ (fiin a m)
          · exact List.mem_append_left _ (gin a m)
    · rw [if_neg hj] at e2; cases e2
end
end VL
set_option maxHeartbeats 1000000
/-! V88: displays of fields, a new thing given to a def, a name for a field. -/
namespace VL
open PySem PySem.Spec L2
/-! ### {"a": .., "b": ..} as fields -/
def OkFs (b : Bd) (sf : List (Str × Sh)) (F H : Hp) (fp : List Addr) (σ : St) (Q : List (V × V) → Hp → Prop) : R (List (Str × D)) → Prop
  | .no => False
  | .ok fd ρ' => ∀ (fv : List (Str × V)) F' H' fp' fx, Rel b.K b.ks F' H' ρ' σ fp' → (fp' ++ fx).Nodup → Ext F H fp F' H' (fp' ++ fx) → OF b.K F' H' sf fv fd fx → fv.map Prod.fst = sf.map Prod.fst → Q (fv.map fun x => (.str x.1, x.2)) H'
  | .ex e ρ' => OkX b F H fp σ e ρ'
structure EFs (X : Cx) (ks : List Sh) (W : WX) (pos : Pos) (sf : List (Str × Sh)) (keys : List (Option Expr)) (values : List Expr) (trs : List (TE × TE)) (m : DEnv → R (List (Str × D))) : Prop where
  pe : PPs X pos keys values trs
  sd : ∀ ρ σ F H fp Q, Rel X.K ks F H ρ σ fp → OkFs (bd X ks W) sf F H fp σ Q (m ρ) → tPairs trs σ H Q
def mFNil : DEnv → R (List (Str × D)) := fun ρ => .ok [] ρ
def mFCons (x : Str) (mv : ME) (mr : DEnv → R (List (Str × D))) : DEnv → R (List (Str × D)) := fun ρ => (mv ρ).bind fun v ρ1 => (mr ρ1).bind fun r ρ2 => .ok ((x, v) :: r) ρ2
def mRec (m : DEnv → R (List (Str × D))) : ME := fun ρ => (m ρ).bind fun fd ρ1 => .ok (.ob Str.empty fd) ρ1
theorem merge_rec : ∀ {fv : List (Str × V)} {acc : List (Key × V)}, (fv.map Prod.fst).Nodup → (∀ kv ∈ acc, ∀ x ∈ fv, kv.1 ≠ Sum.inr x.1) → mergeK acc (recK fv) = acc ++ recK fv
  | [], acc, _, _ => by unfold mergeK recK; simp
  | (x, v) :: fv, acc, nd, h => by
    rw [List.map_cons, List.nodup_cons] at nd
    have e1 : putK acc (Sum.inr x) v = acc ++ [(Sum.inr x, v)] := by
      unfold putK
      rw [if_neg]
      rw [Bool.not_eq_true, List.any_eq_false]
      intro kv m z
      exact h kv m (x, v) List.mem_cons_self (of_decide_eq_true z)
    have e2 := merge_rec (fv := fv) (acc := acc ++ [(Sum.inr x, v)]) nd.2 fun kv m y my z => by
      rcases List.mem_append.mp m with m | m
      · exact h kv m y (List.mem_cons_of_mem _ my) z
      · rw [List.mem_singleton.mp m] at z
        have : x = y.1 := Sum.inr.inj z
        exact nd.1 (by rw [this]; exact List.mem_map.mpr ⟨y, my, rfl⟩)
    show mergeK (putK acc (Sum.inr x) v) (recK fv) = _
    rw [e1, e2, List.append_assoc]; rfl
section
variable {X : Cx} {ks : List Sh} {W : WX} {pos : Pos} {keys : List (Option Expr)} {values : List Expr} {trs : List (TE × TE)} {m : DEnv → R (List (Str × D))} {v : Expr} {tv : TE} {mv : ME} {x : Str} {s : Sh} {sf : List (Str × Sh)}
theorem efs_nil : EFs X ks W pos [] [] [] [] mFNil := ⟨pps_nil, fun ρ σ F H fp Q r h => h [] F H fp [] r (by rw [List.append_nil]; exact r.nd) (by rw [List.append_nil]; exact .refl) .nil rfl⟩
theorem efs_cons {jj} {p2 : Pos} (hv : EV X ks W v s tv mv) (hr : EFs X ks W pos sf keys values trs m) : EFs X ks W pos ((x, s) :: sf) (some (.Constant (.str x) jj p2) :: keys) (v :: values) ((tC (.str x), tv) :: trs) (mFCons x mv m) := by
  refine ⟨pps_cons pe_str hv.pe hr.pe, fun ρ σ F H fp Q r hok => ?_⟩
  unfold mFCons at hok
  show tv σ H fun y H2 => tPairs trs σ H2 fun ps H3 => Q ((.str x, y) :: ps) H3
  refine hv.sd ρ σ F H fp _ r ?_
  cases em : mv ρ with
  | no => rw [em] at hok; exact (show False from hok).elim
  | ex e ρ1 => rw [em] at hok; exact hok
  | ok d ρ1 =>
    rw [em, R.bind_ok] at hok
    intro y F1 H1 fp1 fw r1 nd1 x1 o1
    have nda := List.nodup_append.mp nd1
    refine hr.sd ρ1 σ F1 H1 fp1 _ r1 ?_
    cases en : m ρ1 with
    | no => rw [en] at hok; exact (show False from hok).elim
    | ex e ρ2 =>
      rw [en] at hok
      have hok : OkX (bd X ks W) F H fp σ e ρ2 := hok
      exact OkX.ext (x1.sub fun y m => List.mem_append_left _ m) hok
    | ok fd ρ2 =>
      rw [en] at hok
      intro fv F2 H2 fp2 fx r2 nd2 x2 of hn
      have ndb := List.nodup_append.mp nd2
      have wfp : ∀ a ∈ fw, a ∉ fp1 := fun a m q => nda.2.2 a q a m rfl
      have wk : ∀ a ∈ fw, F2 a = none ∧ H2 a = H1 a := fun a m => by
        obtain ⟨n1, u, hu⟩ := o1.own a m
        obtain ⟨k1, k2⟩ := x2.keep a u hu (wfp a m)
        exact ⟨k2.trans n1, k1.trans hu.symm⟩
      have wnot : ∀ a ∈ fw, a ∉ fp2 ++ fx := fun a m q => by
        rcases x2.fr a q with z | z
        · exact wfp a m z
        · obtain ⟨_, u, hu⟩ := o1.own a m
          rw [z] at hu; cases hu
      have sm : Same F1 F2 := r1.same (x2.sub (g' := fp2) fun y m => List.mem_append_left _ m)
      refine hok ((x, y) :: fv) F2 H2 fp2 (fw ++ fx) r2 ?_ ?_ (.cons (o1.frame sm wk) of) (by rw [List.map_cons, List.map_cons, hn])
      · refine List.nodup_append.mpr ⟨ndb.1, List.nodup_append.mpr ⟨nda.2.1, ndb.2.1, fun a m c q z => wnot a m (List.mem_append_right _ (z ▸ q))⟩, fun a m c q z => ?_⟩
        subst z
        rcases List.mem_append.mp q with q | q
        · exact wnot a q (List.mem_append_left _ m)
        · exact ndb.2.2 a m a q rfl
      · refine ⟨fun a u hu n => ?_, fun a m => ?_⟩
        · have n1 : a ∉ fp1 ++ fw ∨ a ∈ fp1 ++ fw := (Classical.em _).symm
          obtain ⟨k1, k2⟩ := x1.keep a u hu n
          have nf : a ∉ fp1 := fun z => by
            rcases x1.fr a (List.mem_append_left _ z) with q | q
            · exact n q
            · rw [hu] at q; cases q
          obtain ⟨k3, k4⟩ := x2.keep a u k1 nf
          exact ⟨k3, k4.trans k2⟩
        · have low : ∀ a, a ∈ fp2 ++ fx → a ∈ fp ∨ H a = none := fun a m => by
            rcases x2.fr a m with q | q
            · exact x1.fr a (List.mem_append_left _ q)
            · cases e : H a with
              | none => exact .inr rfl
              | some u =>
                by_cases z : a ∈ fp
                · exact .inl z
                · have := (x1.keep a u e z).1
                  rw [q] at this; cases this
          rcases List.mem_append.mp m with m | m
          · exact low a (List.mem_append_left _ m)
          · rcases List.mem_append.mp m with m | m
            · exact x1.fr a (List.mem_append_right _ m)
            · exact low a (List.mem_append_right _ m)
theorem ev_rec (h : EFs X ks W pos sf keys values trs m) (nd : (sf.map Prod.fst).Nodup) (hall : keys.all (·.isSome) = true := by rfl) (hl : keys.length = values.length := by rfl) (h0 : keys ≠ [] := by intro z; cases z) (h15 : keys.length ≤ 15 := by decide) (hs : sf.length ≤ 15 := by decide) : EV X ks W (.Dict keys values pos) (.rcd sf) (tDisp trs) (mRec m) := by
  refine ⟨pe_disp h.pe hall hl h0 h15, fun ρ σ F H fp Q r hok p np => ?_⟩
  have nF : F p = none := sub_none r.sub np
  obtain ⟨r1, nd1, x1⟩ := (upd_alcH (o := .dK []) r.sub np).rel (fv := [p]) r (fun y m => by simp at m; subst m; exact np) (by simp)
  have x1' : Ext F H fp F (upd H p (.dK [])) fp := x1.sub fun y m => List.mem_append_left _ m
  have pfp : p ∉ fp := fun m => by obtain ⟨_, o, ho⟩ := r.sl.own p m; rw [np] at ho; cases ho
  refine h.sd ρ σ F _ fp _ r1 ?_
  unfold mRec at hok
  cases em : m ρ with
  | no => rw [em] at hok; exact (show False from hok).elim
  | ex e ρ3 => rw [em] at hok; exact OkX.ext x1' (show OkX (bd X ks W) F H fp σ e ρ3 from hok)
  | ok fd ρ3 =>
    rw [em, R.bind_ok] at hok
    intro fv F2 H2 fp2 fx r2 nd2 x2 of hn
    obtain ⟨k1, k2⟩ := x2.keep p _ upd_same pfp
    have pn : p ∉ fp2 ++ fx := fun m => by
      rcases x2.fr p m with z | z
      · exact pfp z
      · rw [upd_same] at z; cases z
    have nF2 : F2 p = none := k2.trans nF
    have lk : fv.length = sf.length := by have := congrArg List.length hn; simpa using this
    refine ⟨k1, recK fv, ?_, by unfold recK; rw [List.length_map, lk]; exact hs, ?_⟩
    · unfold recK
      rw [List.map_map]; rfl
    rw [merge_rec (by rw [hn]; exact nd) (fun _ z => by cases z), List.nil_append]
    have xx := x1'.trans x2
    have ndb := List.nodup_append.mp nd2
    have kp : ∀ a, a ≠ p → upd H2 p (.dK (recK fv)) a = H2 a := fun a n => upd_ne n
    refine hok (.ref p) F2 _ fp2 (p :: fx) ⟨sub_updH r2.sub nF2 (by intro _ z; cases z), r2.nd, r2.sl.frame (fun a o e => e) fun a m => ⟨(r2.sl.own a m).1, kp a fun z => pn (List.mem_append_left _ (z ▸ m))⟩⟩ ?_ ⟨fun a o e n => ?_, fun a m => ?_⟩ (.rcd nF2 upd_same (of.frame (fun a o e => e) fun a m => ⟨(of.own a m).1, kp a fun z => pn (List.mem_append_right _ (z ▸ m))⟩))
    · refine List.nodup_append.mpr ⟨r2.nd, List.nodup_cons.mpr ⟨fun m => pn (List.mem_append_right _ m), ndb.2.1⟩, fun a m y m' z => ?_⟩
      subst z
      rcases List.mem_cons.mp m' with rfl | m'
      · exact pn (List.mem_append_left _ m)
      · exact ndb.2.2 a m a m' rfl
    · have hne : a ≠ p := fun z => by rw [z, np] at e; cases e
      obtain ⟨q1, q2⟩ := xx.keep a o e n
      exact ⟨(kp a hne).trans q1, q2⟩
    · rcases List.mem_append.mp m with m | m
      · exact xx.fr a (List.mem_append_left _ m)
      · rcases List.mem_cons.mp m with rfl | m
        · exact .inr np
        · exact xx.fr a (List.mem_append_right _ m)
end
/-! ### f(e, C(..)) -/
def mCallN2 (g : List D → R D) (me md : ME) : ME := fun ρ => (me ρ).bind fun d ρ1 => (md ρ1).bind fun d2 ρ2 => match g [d, d2] with
  | .ok r _ => .ok r ρ2
  | _ => .no
section
variable {X : Cx} {CX : CXT} {k : Nat} {f : Str} {g : List D → R D} {ks : List Sh} {W : WX} {e dd : Expr} {p pos : Pos} {te td : TE} {me md : ME} {rsh s2 : Sh}
theorem snd_callN2 {b : Bd} (hW : b.W = W) (he : SndE b .leaf te me) (hd : SndE b s2 td md) : SndE b rsh (tCallS (spV b.K b.mg 2 [.leaf, s2] 0 rsh g) (WE W) (tCons te (tCons td tNil))) (mCallN2 g me md) := by
  intro ρ σ F H fp Q r hok
  unfold mCallN2 at hok
  refine he.go r (Ok := OkE b rsh F H fp σ Q) hok (fun z => z) (fun _ _ z => z) fun d ρ1 v F1 H1 fp1 h1 r1 x1 p1 => ?_
  refine hd ρ1 σ F1 H1 fp1 _ r1 ?_
  have h1 := OkE.ext x1 h1
  cases em : md ρ1 with
  | no => rw [em] at h1; exact (show False from h1).elim
  | ex y ρ' => rw [em] at h1; exact h1
  | ok d2 ρ2 =>
    rw [em, R.bind_ok] at h1
    intro vj F2 H2 fp2 fj r2 nd2 x2 o2
    have sm : Same F1 F2 := r1.same (x2.sub (g' := fp2) fun y m => List.mem_append_left _ m)
    have rl : RelL b.K F2 H2 [.leaf, s2] [some d, some d2] [some v, some vj] ([] ++ (fj ++ [])) := .som (.leaf (p1.mono sm)) (.som o2 .nil)
    rw [List.append_nil, List.nil_append] at rl
    have nda := List.nodup_append.mp nd2
    refine ⟨rfl, F2, fj, [d, d2], ⟨r2.sub, nda.2.1, rl⟩, ?_⟩
    have h2 := OkE.ext x2 h1
    cases eg : g [d, d2] with
    | no => rw [eg] at h2; exact (show False from h2).elim
    | ex y ρ' => rw [eg] at h2; exact (show False from h2).elim
    | ok d' ρ' =>
      rw [eg] at h2
      intro vr F' H' fp' fv r' nd x o
      dsimp only at h2
      obtain ⟨sl3, ap⟩ := frame_back (fun y m => (o2.own y m).1) r2.sub r2.sl (fun y m m2 => nda.2.2 y m2 y m rfl) x
      have sbl : ([] ++ fv).Sublist (fp' ++ fv) := List.Sublist.append (List.nil_sublist _) (.refl _)
      obtain ⟨q1, q2, q3⟩ := fin_back (fp' := []) (gp := fp2) (gb := fp2) List.perm_append_comm nd2 (fun y m => ap y (sbl.subset m)) (nd.sublist sbl) (x.sub sbl.subset) (by rw [List.nil_append])
      exact h2 vr F' H' fp2 fv ⟨r'.sub, q1, sl3⟩ q2 q3 o
theorem ev_callN2 (c : Cl X CX k f 2 [.leaf, s2] 0 rsh g) (hx : ∀ σ, PassesAt CX X σ (WE W σ)) (hr : Room k X.A) (hgd : X.A.guards = some []) (he : EV X ks W e .leaf te me) (hd : EV X ks W dd s2 td md)
    (hg : Gl X f := by rfl) (hdb : (f == ("__debug__" : Str)) = false := by decide) (hst2 : starEach [dd] X.env = (false, eval dd X.env) :: starEach [] X.env := by rfl) (hst : starEach (e :: [dd]) X.env = (false, eval e X.env) :: starEach [dd] X.env := by rfl) (hpl : (backTo pos (starEach [dd] X.env)).any (·.1) = false := by rfl) :
    EV X ks W (.Call (.Name f p) [e, dd] [] pos) rsh (tCallS (spV X.K X.mg 2 [.leaf, s2] 0 rsh g) (WE W) (tCons te (tCons td tNil))) (mCallN2 g me md) := by
  obtain ⟨f', fd, ps, G, hm, hkk, hb⟩ := c.ex
  exact ⟨pe_callG G hr hgd hg hm hkk hb hx (pa_cons he.pe (pa_cons hd.pe pa_nil hst2) hst) hdb hst hpl, snd_callN2 (b := bd X ks W) rfl he.sd hd.sd⟩
end
/-! ### a name for a field -/
section
variable {K : PySem.W.Frag} {F H : Hp}
theorem RelL.reshN (s : Sh) : ∀ {ks : List Sh} {ρ : DEnv} {σ : St} {fp : List Addr} (i : Nat), RelL K F H ks (ρ.set i none) σ fp → RelL K F H (ks.set i s) (ρ.set i none) σ fp
  | [], [], _, _, i, r => by cases r; exact .nil
  | [], _ :: _, _, _, 0, r => by rw [List.set_cons_zero] at r; cases r
  | [], _ :: _, _, _, i + 1, r => by rw [List.set_cons_succ] at r; cases r
  | _ :: _, [], _, _, i, r => by cases r
  | _ :: ks, _ :: ρ, _, _, 0, r => by
    rw [List.set_cons_zero] at r ⊢
    rw [List.set_cons_zero]
    cases r with | non r => exact .non r
  | _ :: ks, _ :: ρ, _, _, i + 1, r => by
    rw [List.set_cons_succ] at r ⊢
    rw [List.set_cons_succ]
    cases r with
    | non r => exact .non (RelL.reshN s i r)
    | som o r => exact .som o (RelL.reshN s i r)
theorem RelL.unq {sf : List (Str × Sh)} {j : Nat} {q : Addr} : ∀ {ks : List Sh} {ρ : DEnv} {σ : St} {fp : List Addr} {i : Nat}, RelL K F H ks ρ σ fp → ks[i]? = some (.rcq sf j q) → RelL K F H (ks.set i (.rcd sf)) ρ σ fp
  | _, _, _, _, _, .nil, h => by simp at h
  | _, _, _, _, 0, .non r, h => .non r
  | _, _, _, _, 0, .som o r, h => by
    simp at h
    subst h
    cases o with
    | rcq e a b of => exact .som (.rcd a b of) r
  | _, _, _, _, i + 1, .non r, h => .non (RelL.unq r (by simpa using h))
  | _, _, _, _, i + 1, .som o r, h => .som o (RelL.unq r (by simpa using h))
end
def mAlias (i j k : Nat) (m : MS) : MS := fun ρ => match own ρ i with
  | some o => (match fldD j o with
    | some _ => (m (ρ.set k (some (.ob Str.empty [])))).mapE fun ρ => ρ.set k none
    | none => .no)
  | none => .no
section
variable {X : Cx} {ks : List Sh} {W : WX} {rsh : Sh} {fx : Nat} {sts : List Stmt} {u : Addr → TS} {m : MS} {e : Expr} {t : TE} {i j k : Nat} {sf sfi : List (Str × Sh)} {x y : Str} {C : Addr} {pos pos' : Pos}
theorem svs_alias (h : FR X ks e i j (.rcd sf) x t gd0) (hk : ks[i]? = some (.rcd sf)) (hsj : sf[j]? = some (x, .ins C sfi)) (nd : (sf.map Prod.fst).Nodup) (hik : i ≠ k) (hkk : ks[k]? = some .leaf) (hf : fx ≤ k) (hN : X.N.Nodup) (hi : X.N[k]? = some y) (hx : Loc X.env.scope y)
    (rest : ∀ q, SVs X ((ks.set i (.rcq sf j q)).set k (.alr q)) W rsh fx sts (u q) m) (hs : swapsWith e (some (.Name y pos')) pos.line X.env = pure false := by rfl) (hff : X.fn y = true ∨ X.env.scope.names.lookup y = some .local := by first | exact .inl rfl | exact .inr rfl | assumption) :
    SVs X ks W rsh fx (.Assign [.Name y pos'] e pos :: sts) (tSeq (tAsg t (gName k)) fun D σ H => ∃ q, u q D σ H) (mAlias i j k m) := by
  refine ⟨pss_cons (ps_set hN hi hx h.pe hs hff) ⟨fun pins s σ H D I ⟨q, h⟩ => (rest q).pe.run pins s σ H D I h⟩, fun ρ σ F H fp D r hok => ?_⟩
  unfold mAlias at hok
  cases e1 : own ρ i with
  | none => rw [e1] at hok; exact (show False from hok).elim
  | some o =>
  rw [e1] at hok
  dsimp only at hok
  cases e2 : fldD j o with
  | none => rw [e2] at hok; exact (show False from hok).elim
  | some qq =>
  obtain ⟨y0, d0⟩ := qq
  rw [e2] at hok
  dsimp only at hok
  obtain ⟨p, v, f0, ey, s1, fa, o0, _, _, _, _⟩ := r.fldH hk rfl hsj nd e1 e2
  refine h.rd ρ σ F H fp _ p v r rfl s1 fa (fun _ _ z => by cases z) ?_
  obtain ⟨a, rfl⟩ : ∃ a, v = .ref a := by cases o0; exact ⟨_, rfl⟩
  show ∃ q, u q D (σ.set k (some (.ref a))) H
  refine ⟨a, ?_⟩
  -- the frame with the name
  have hlen := r.sl.lens
  have hkσ : k < σ.length := by
    have := (List.getElem?_eq_some_iff.mp hkk).1
    rw [← hlen.2, ← hlen.1]; exact this
  obtain ⟨g, w, sl⟩ := r.sl.wipe1 k
  have ei : (ρ.set k none)[i]? = some (some o) := by rw [List.getElem?_set_ne (Ne.symm hik)]; exact getE e1
  obtain ⟨v', f, g', s1', o1, sl2, pm⟩ := w.split hk ei
  rw [s1] at s1'
  cases s1'
  have a1 := RelL.reshN (.rcq sf j a) i sl2
  rw [List.set_comm _ _ (Ne.symm hik)] at a1
  have a2 := RelL.reshN (.alr a) k a1
  have a3 := a2.setV k (some (.ref a))
  have kk1 : ((ks.set i (.rcq sf j a)).set k (.alr a))[k]? = some (.alr a) := List.getElem?_set_self (by rw [List.length_set]; exact (List.getElem?_eq_some_iff.mp hkk).1)
  have ki1 : ((ks.set i (.rcq sf j a)).set k (.alr a))[i]? = some (.rcq sf j a) := by
    rw [List.getElem?_set_ne (Ne.symm hik)]
    exact List.getElem?_set_self (List.getElem?_eq_some_iff.mp hk).1
  obtain ⟨gp1, b1, b2⟩ := RelL.join (.alr (c := Str.empty) : OR X.K F H (.alr a) (.ref a) (.ob Str.empty []) []) a3 kk1 (List.getElem?_set_self hkσ)
  rw [List.set_comm (none : Option VL.D) (some (VL.D.ob Str.empty [])) hik] at b1
  have oq : ∃ fq, OR X.K F H (.rcq sf j a) (.ref p) o fq ∧ fq = f := by
    cases o1 with
    | @rcd _ c _ fv fd fi np hp of =>
      obtain ⟨s', w', f0', g0, h1, h2, _⟩ := of.at_ (show fd[j]? = some (y0, d0) from e2)
      obtain ⟨fv', hp', hl⟩ := fa
      rw [hp] at hp'
      have ev : fv = fv' := recK_inj (HO.dK.inj (Option.some.inj hp'))
      subst ev
      have hl2 := fv_look (of.nd nd) h2
      rw [ey, hl] at hl2
      cases hl2
      exact ⟨_, .rcq h2 np hp of, rfl⟩
  obtain ⟨fq, oq, rfl⟩ := oq
  obtain ⟨gp, c1, c2⟩ := RelL.join oq b1 ki1 (by rw [List.getElem?_set_ne (Ne.symm hik)]; exact s1)
  have eρ : (ρ.set k (some (VL.D.ob Str.empty []))).set i (some o) = ρ.set k (some (.ob Str.empty [])) := by
    refine List.ext_getElem? fun z => ?_
    by_cases ez : i = z
    · subst ez
      have hi2 : i < (ρ.set k (some (VL.D.ob Str.empty []))).length := by rw [List.length_set, ← hlen.1]; exact (List.getElem?_eq_some_iff.mp hk).1
      rw [List.getElem?_set_self hi2, List.getElem?_set_ne (Ne.symm hik), getE e1]
    · rw [List.getElem?_set_ne ez]
  rw [eρ] at c1
  have gpg : gp.Perm g := c2.trans ((List.Perm.append_left fq b2).trans (by rw [List.nil_append]; exact pm.symm))
  have gsub : ∀ z ∈ gp, z ∈ fp := fun z m => sl.subset (gpg.subset m)
  refine (rest a).sd (ρ.set k (some (.ob Str.empty []))) _ F H gp D ⟨r.sub, gpg.nodup_iff.mpr (r.nd.sublist sl), c1⟩ ?_
  have ext : ∀ {F' H' : Hp} {ga fp' : List Addr}, Ext F H gp F' H' fp' → (∀ y ∈ ga, y ∈ fp') → Ext F H fp F' H' ga := fun x hs => ⟨fun a o e n => x.keep a o e fun z => n (gsub _ z), fun a ma => by
    rcases x.fr a (hs a ma) with q | q
    · exact .inl (gsub _ q)
    · exact .inr q⟩
  have back : ∀ {ρ1 : DEnv} {σ1 : St} {F' H' : Hp} {fp' : List Addr}, Rel X.K ((ks.set i (.rcq sf j a)).set k (.alr a)) F' H' ρ1 σ1 fp' → ∃ g2, Rel X.K ks F' H' (ρ1.set k none) σ1 g2 ∧ g2.Sublist fp' := fun {ρ1 σ1 F' H' fp'} r1 => by
    obtain ⟨g2, z1, z2⟩ := r1.resh k .leaf
    rw [List.set_set] at z1
    have z3 := z1.sl.unq (i := i) (sf := sf) (j := j) (q := a) (by rw [List.getElem?_set_ne (Ne.symm hik)]; exact List.getElem?_set_self (List.getElem?_eq_some_iff.mp hk).1)
    have ek : ((ks.set i (Sh.rcq sf j a)).set k .leaf).set i (.rcd sf) = ks := by
      rw [List.set_comm _ _ (Ne.symm hik), List.set_set]
      refine List.ext_getElem? fun z => ?_
      by_cases ez : k = z
      · subst ez
        rw [List.getElem?_set_self (by rw [List.length_set]; exact (List.getElem?_eq_some_iff.mp hkk).1), hkk]
      · rw [List.getElem?_set_ne ez]
        by_cases ey : i = z
        · subst ey
          rw [List.getElem?_set_self (List.getElem?_eq_some_iff.mp hk).1, hk]
        · rw [List.getElem?_set_ne ey]
    rw [ek] at z3
    exact ⟨g2, ⟨z1.sub, z1.nd, z3⟩, z2⟩
  cases em : m (ρ.set k (some (.ob Str.empty []))) with
  | no => rw [em] at hok; exact hok
  | ex x ρ1 =>
    rw [em] at hok
    intro cls dx σ' F' H' fp' r' x' q ex
    obtain ⟨g2, r2, s2⟩ := back r'
    exact hok cls dx σ' F' H' g2 r2 (ext x' fun y m => s2.subset m) (q.trans (take_set hf)) ex
  | ok fl ρ1 =>
    rw [em] at hok
    cases fl with
    | nx =>
      intro σ' F' H' fp' r' x' q
      obtain ⟨g2, r2, s2⟩ := back r'
      exact hok σ' F' H' g2 r2 (ext x' fun y m => s2.subset m) (q.trans (take_set hf))
    | rt d =>
      intro v σ' F' H' fp' fv r' nd' x' q o
      obtain ⟨g2, r2, s2⟩ := back r'
      refine hok v σ' F' H' g2 fv r2 (nd'.sublist (List.Sublist.append s2 (.refl _))) (ext x' fun y m => ?_) (q.trans (take_set hf)) o
      rcases List.mem_append.mp m with m | m
      · exact List.mem_append_left _ (s2.subset m)
      · exact List.mem_append_right _ m
end
/-! ### methods that may raise, called where they do not -/
theorem Mlp.noex {P : Program} {w : World} {K : PySem.W.Frag} {mg : Str → Option Value} {base : Heap} {k n fx : Nat} {C : Addr} {m : Str} {psh : List Sh} {rsh : Sh} {g : List D → R D} (c : Mlp P w K mg base (L2.CX P w) k C m n psh fx rsh g) :
    Mlp P w K mg base CX0 k C m n psh fx rsh fun ds => (g ds).noEx := by
  obtain ⟨f, fd, ps, G, hm, hb⟩ := c.ex
  exact ⟨f, fd, ps, G.noex, hm, hb⟩
theorem Nlp.noex {P : Program} {w : World} {K : PySem.W.Frag} {mg : Str → Option Value} {base : Heap} {k n fx : Nat} {f : Addr} {psh : List Sh} {rsh : Sh} {g : List D → R D} (c : Nlp P w K mg base (L2.CX P w) k f n psh fx rsh g) :
    Nlp P w K mg base CX0 k f n psh fx rsh fun ds => (g ds).noEx := by
  obtain ⟨fd, ps, G, hb⟩ := c.ex
  exact ⟨fd, ps, G.noex, hb⟩
end VL
set_option maxHeartbeats 1000000
/-! V89: fields asked by get, sorted, listed; whole numbers sorted. -/
namespace VL
open PySem PySem.Spec L2
def leIx (a b : Int) : Bool := decide (a ≤ b)
theorem leIx_trans (a b c : Int) (h1 : leIx a b = true) (h2 : leIx b c = true) : leIx a c = true := by
  unfold leIx at *
  rw [decide_eq_true_eq] at *
  omega
theorem leIx_total (a b : Int) : (leIx a b || leIx b a) = true := by
  unfold leIx
  rw [Bool.or_eq_true, decide_eq_true_eq, decide_eq_true_eq]
  omega
def sortI (l : List Int) : List Int := l.mergeSort leIx
theorem sortI_perm (l : List Int) : (sortI l).Perm l := List.mergeSort_perm l leIx
theorem sortI_pw (l : List Int) : (sortI l).Pairwise (· ≤ ·) := (List.pairwise_mergeSort leIx_trans leIx_total l).imp fun h => of_decide_eq_true h
theorem sortI_uniq {l m : List Int} (p : m.Perm l) (h : m.Pairwise (· ≤ ·)) : m = sortI l :=
  List.Perm.eq_of_pairwise (le := (· ≤ ·)) (fun a b _ _ h1 h2 => Int.le_antisymm h1 h2) h (sortI_pw l) (p.trans (sortI_perm l).symm)
def sortID : D → Option D
  | .lst ds => (asInts ds).bind fun ns => some (.lst ((sortI ns).map .int))
  | _ => none
theorem reps_intsM {K : PySem.W.Frag} {F : Hp} : ∀ ns : List Int, Reps K F (ns.map V.int) (ns.map .int)
  | [] => .nil
  | n :: ns => .cons (.int n) (reps_intsM ns)
theorem s_sortI {K : PySem.W.Frag} : OpN K (.lst .leaf) (rSortedI K) (one sortID) := by
  refine s_one fun F H x d z Q sm hx ef k => ?_
  unfold sortID at ef
  split at ef
  · rename_i ds
    cases e1 : asInts ds with
    | none => rw [e1] at ef; cases ef
    | some ns =>
      rw [e1, Option.bind_some] at ef
      cases ef
      obtain ⟨p, vs, rfl, eH, r⟩ := hx.lstE sm
      have ev := reps_asInts r e1
      subst ev
      refine ⟨p, ns, rfl, .of eH, fun ns' q h1 h2 nq => ?_⟩
      rw [sortI_uniq h1 h2]
      exact k.newL sm (reps_intsM _) nq
  · cases ef
def keysI : List (Key × D) → Option (List Int)
  | [] => some []
  | (.inl i, _) :: r => (keysI r).bind fun t => some (i :: t)
  | (.inr _, _) :: _ => none
theorem keysI_E : ∀ {ds : List (Key × D)} {ns : List Int}, keysI ds = some ns → ds.map Prod.fst = ns.map Sum.inl
  | [], ns, h => by cases h; rfl
  | (.inl i, d) :: r, ns, h => by
    unfold keysI at h
    cases e : keysI r with
    | none => rw [e] at h; cases h
    | some t =>
      rw [e] at h
      cases h
      rw [List.map_cons, List.map_cons, keysI_E e]
  | (.inr _, _) :: _, _, h => by cases h
abbrev rSortDI : List V → Hp → VK → Prop := fun xs H Q => ∃ (a : Addr) (kvs : List (Key × V)) (ks : List Int), xs = [.ref a] ∧ Rd H a (.dK kvs) ∧ kvs.map (·.1) = ks.map Sum.inl ∧ ks.length < 64 ∧
    ∀ (ys : List Int) (p : Addr), ys.Perm ks → ys.Pairwise (· ≤ ·) → H p = none → Q (.ref p) (upd H p (.lst (ys.map V.int)))
def sortKD : D → Option D
  | .dK ds => (keysI ds).bind fun ns => if ns.length < 64 then some (.lst ((sortI ns).map .int)) else none
  | _ => none
theorem s_sortK {K : PySem.W.Frag} : OpN K (.lst .leaf) rSortDI (one sortKD) := by
  refine s_one fun F H x d z Q sm hx ef k => ?_
  unfold sortKD at ef
  split at ef
  · rename_i ds
    cases e1 : keysI ds with
    | none => rw [e1] at ef; cases ef
    | some ns =>
      rw [e1, Option.bind_some] at ef
      by_cases hl : ns.length < 64
      · rw [if_pos hl] at ef
        cases ef
        obtain ⟨p, kvs, rfl, eH, ek, r⟩ := hx.dKE sm
        refine ⟨p, kvs, ns, rfl, eH, ek.trans (keysI_E e1), hl, fun ns' q h1 h2 nq => ?_⟩
        rw [sortI_uniq h1 h2]
        exact k.newL sm (reps_intsM _) nq
      · rw [if_neg hl] at ef; cases ef
  · cases ef
section
variable {X : Cx} {ks : List Sh} {W : WX} {a : Expr} {ta : TE} {sh : Sh} {pos : Pos}
theorem k_sortI (K : PySem.W.Frag) (hK : X.K = K) : CallR X (.builtin "sorted") (rSortedI K) := hK ▸ cr_sortedI
theorem ev_callTL {x : Str} {q : Pos} {id : String} {r : List V → Hp → VK → Prop} {f : D → Option D} {m : ME} (ho : CallR X (.type id) r) (hs : OpN X.K sh r (one f)) (ha : EL X ks W a ta m) (hm : X.mg x = none) (hv : bootBuiltins x = some (.type id))
    (hg : Gl X x := by rfl) (hn : x ≠ "__name__" := by decide) (hdb : (x == ("__debug__" : Str)) = false := by decide)
    (he : starEach [a] X.env = (false, eval a X.env) :: starEach [] X.env := by rfl) : EV X ks W (.Call (.Name x q) [a] [] pos) sh (tCB r (tCons ta tNil)) (mOpL f m) := by
  refine ⟨pe_callTy ho hg hm hv (pa_cons ha.pe pa_nil he) hn hdb he rfl, fun ρ σ F H fp Q r0 hok => ?_⟩
  refine ha.sd.go r0 (Ok := OkE (bd X ks W) sh F H fp σ Q) hok (fun z => z) (fun _ _ z => z) fun d ρ1 v F1 H1 fp1 h1 r1 x1 o1 => ?_
  cases e : f d with
  | none => rw [e] at h1; exact (show False from h1).elim
  | some z =>
    rw [e] at h1
    exact hs F1 H1 [v] [d] z Q r1.sub (.cons o1 .nil) e ((h1.ext x1).done r1)
end
/-! ### holder.x.get(k, z) -/
def mGetH (i j : Nat) (mk mx : ME) : ME := fun ρ => match own ρ i with
  | some o => (match fldD j o with
    | some q => if q.2.isDc = true then (mk (ρ.set i none)).bind fun k ρ1 => (mx ρ1).bind fun z ρ2 => R.of (getD3 q.2 k z) (ρ2.set i (some o)) else .no
    | none => .no)
  | none => .no
theorem ef_get {X : Cx} {ks : List Sh} {W : WX} {o e f : Expr} {apos cpos : Pos} {td ty tx : TE} {mk mx : ME} {i j : Nat} {s s0 : Sh} {sf : List (Str × Sh)} {x : Str} (hu : X.A.units + 1 < cLine) (h : FR X ks o i j s x td gd0) (he : EV X ks W e .leaf ty mk) (hf : EV X ks W f .leaf tx mx) (hk : ks[i]? = some s) (hs : holdS s = some sf) (hsj : sf[j]? = some (x, s0)) (nd : (sf.map Prod.fst).Nodup) (hsh : s0 = .leaf ∨ s0 = .lst .leaf ∨ s0 = .dic .leaf)
    (m1 : attributeBase o "get" X.env (eval o X.env) = eval o X.env := by rfl)
    (m2 : ((backTo cpos (starEach [e, f] X.env)).all (fun x => !x.1) && (backToKw cpos (keywordEach [] X.env)).all (fun x => x.1.isSome)
    && decide (([e, f] : List Expr).length + ([] : List Keyword).length + (if ([] : List Keyword).isEmpty then 0 else 1) < 30)) = true := by rfl)
    (m3 : (apos.endLine == cpos.line) = true := by rfl) (m4 : backTo cpos (starEach [e, f] X.env) = [(false, eval e X.env), (false, eval f X.env)] := by rfl) :
    EV X ks W (.Call (.Attribute o "get" apos) [e, f] [] cpos) .leaf (tDGet2 td ty tx) (mGetH i j mk mx) := by
  refine ⟨pe_dget2 hu h.pe he.pe hf.pe ⟨m1, m2, m3, m4⟩, fun ρ σ F H fp Q r0 hok => ?_⟩
  unfold mGetH at hok
  cases e1 : own ρ i with
  | none => rw [e1] at hok; exact (show False from hok).elim
  | some oo =>
  rw [e1] at hok
  dsimp only at hok
  cases e2 : fldD j oo with
  | none => rw [e2] at hok; exact (show False from hok).elim
  | some q =>
  obtain ⟨y0, d⟩ := q
  rw [e2] at hok
  dsimp only at hok
  by_cases c : d.isDc = true
  · rw [if_pos c] at hok
    obtain ⟨p0, v, f0, _, s1, fa, o1, _, _, al, _⟩ := r0.fldH hk hs hsj nd e1 e2
    obtain ⟨a, rfl, isd⟩ := vw_isD r0.sub (o1.vw hsh) c
    refine h.rd ρ σ F H fp _ p0 _ r0 rfl s1 fa al ⟨a, rfl, isd, ?_⟩
    obtain ⟨g1, rh, gin, back⟩ := r0.hideH hk hs e1 s1
    refine he.sd.go rh (Ok := OkE (bd X ks W) .leaf F H fp σ Q) hok (fun z => z) (fun _ _ z cls dx F' H' fp' r' x' ex => z cls dx F' H' fp' r' (x'.weak gin) ex) fun k ρ1 u F1 H1 fp1 h1 r1 x1 p1 => ?_
    refine hf.sd.go r1 (Ok := OkE (bd X ks W) .leaf F H fp σ Q) h1 (fun z => z) (fun _ _ z cls dx F' H' fp' r' x' ex => z cls dx F' H' fp' r' ((x1.trans x').weak gin) ex) fun y ρ2 w F2 H2 fp2 h2 r2 x2 p2 => ?_
    have p1' := p1.mono (r1.same x2)
    obtain ⟨hp, fpn, rn, xn⟩ := back r2 (x1.trans x2)
    have e4 := own_set (d := oo) hk r2.sl
    obtain ⟨p3, v3, f3, _, s3, fa3, o3, _⟩ := rn.fldH hk hs hsj nd e4 e2
    rw [s1] at s3
    cases s3
    have ev := fa.uniq fa3 hp
    subst ev
    have vw3 := o3.vw hsh
    cases e5 : getD3 d k y with
    | none => rw [e5] at h2; exact (show False from h2).elim
    | some z =>
      rw [e5] at h2
      have okz := (OkE.ext xn h2).done rn
      unfold getD3 at e5
      split at e5
      · rename_i kvs
        cases ek : keyK k with
        | none => rw [ek] at e5; cases e5
        | some q =>
          rw [ek] at e5
          cases e5
          obtain ⟨p, kv, q0, q1, q2, q3⟩ := vw3.dKE rn.sub
          cases q0
          have eu : u = kV q := keyKE (F := F2) (H := F2) (.rep p1') ek
          subst eu
          refine ⟨_, .inl ⟨kv, q, q1, rfl, rfl⟩, ?_⟩
          obtain ⟨l1, l2⟩ := look_val (F := F2) q q2 q3
          cases el : look kvs q with
          | none => rw [l1 el]; rw [el] at okz; exact okz.here rn.sub p2
          | some dd =>
            obtain ⟨vv, g1, g2⟩ := l2 dd el
            rw [g1]; rw [el] at okz; exact okz.here rn.sub g2
      · rename_i kvs
        cases ek : keyT k with
        | none => rw [ek] at e5; cases e5
        | some q =>
          rw [ek] at e5
          cases e5
          obtain ⟨p, kv, q0, q1, q2, q3⟩ := vw3.dTE rn.sub
          cases q0
          obtain ⟨b, b1, b2⟩ := keyTE rn.sub (.rep p1') ek
          subst b1
          refine ⟨_, .inr ⟨kv, q, b, q1, rfl, b2, rfl⟩, ?_⟩
          obtain ⟨l1, l2⟩ := look_val (F := F2) q q2 q3
          cases el : look kvs q with
          | none => rw [l1 el]; rw [el] at okz; exact okz.here rn.sub p2
          | some dd =>
            obtain ⟨vv, g1, g2⟩ := l2 dd el
            rw [g1]; rw [el] at okz; exact okz.here rn.sub g2
      · cases e5
  · rw [if_neg c] at hok; exact (show False from hok).elim
end VL
set_option maxHeartbeats 1000000
/-! V90: a caught exception handed to a def. -/
namespace VL
open PySem PySem.Spec L2
/-- what a def promises that is called with the exception that is handled -/
structure FnE (P : Program) (w : World) (K : PySem.W.Frag) (mg : Str → Option Value) (base : Heap) (k : Nat) (f : Addr) (fd : FuncData) (ps : List Str) (sp : Addr → Value → Option Addr → Sp) : Prop where
  len : ps.length = 1
  run : ∀ (A : Around) (outer : List Env) (s : Shared) (H : Hp) (args : Args) (us : List Value) (Q : VK) (a : Addr) (oe : Obj) (cls : Value) (d : Option Addr), L2H.RoomH k A → A.guards = some [] → A.handled = some (.ref a) → L2H.PinOk outer H s (a, oe) → Zc cls d oe → (∃ vs, oe.data = .fields vs) → Env0 P w K mg base A outer s H → BindsTo s fd args (ps.zip us) → Vals [V.ref a] us → sp a cls d [V.ref a] H Q (fun _ _ _ => False) →
    codeAny (model P w) A (.call (.ref f) args) (CR CX0 outer P w H s Q (fun _ _ _ => False)) s
structure Elp (P : Program) (w : World) (K : PySem.W.Frag) (mg : Str → Option Value) (base : Heap) (k : Nat) (x : Str) (g : List D → R D) : Prop where
  ex : ∃ f fd ps, FnE P w K mg base k f fd ps (fun a cls d => spV K mg 1 [.exc mg a cls d] 0 .leaf g) ∧ mg x = some (.ref f) ∧ PySem.W.keepIn K (.ref f) = true ∧ Binds K fd ps []
theorem elp_of {P : Program} {w : World} {K : PySem.W.Frag} {mg : Str → Option Value} {base : Heap} {k : Nat} {f : Addr} {fd : FuncData} {ps : List Str} {g : List D → R D} {x : Str}
    (G : FnE P w K mg base k f fd ps (fun a cls d => spV K mg 1 [.exc mg a cls d] 0 .leaf g)) (hm : mg x = some (.ref f)) (hk : PySem.W.keepIn K (.ref f) = true) (hb : Binds K fd ps []) : Elp P w K mg base k x g := ⟨f, fd, ps, G, hm, hk, hb⟩
theorem FnE.mono {P : Program} {w : World} {K : PySem.W.Frag} {mg : Str → Option Value} {base : Heap} {j k : Nat} {f : Addr} {fd : FuncData} {ps : List Str} {sp : Addr → Value → Option Addr → Sp} (G : FnE P w K mg base j f fd ps sp) (h : j ≤ k) : FnE P w K mg base k f fd ps sp :=
  ⟨G.len, fun A outer s H args us Q a oe cls d hr => G.run A outer s H args us Q a oe cls d (hr.mono h)⟩
section
variable {P : Program} {w : World} {K : PySem.W.Frag} {mg : Str → Option Value} {base : Heap}
def calmA (A : Around) : Around := { A with handled := none }
theorem calm_mark {A : Around} {v : Value} (h : A.handled = some v) : (calmA A).mark (some v) = A := by
  cases A
  cases h
  rfl
theorem Fun.okE {x qual : Str} {st : Stmt} {f : Addr} {fd : FuncData} {N ps : List Str} {k : Nat} {lsh : List Sh} {m : MS} (G : L2.Fun K x qual st f fd) (S : FnScope N ps (defScope st)) (hp : ps.length = 1) (hN : N.length = 1 + lsh.length)
    (body : ∀ (X : Cx) (a : Addr) (oe : Obj) (cls : Value) (d : Option Addr), X.prog = P → X.w = w → X.K = K → X.mg = mg → X.base = base → X.N = N → X.xe = (fun _ _ => False) → X.fn = (fun _ => true) → (∃ L f cd, X.env = PyProof.Rows.envOfC qual (defScope st) L f cd) → Room k X.A → X.A.guards = some [] → Zc cls d oe → (∃ vs, oe.data = .fields vs) →
      ∃ t, SVs (X.suite a [(a, oe)]) (.exc X.mg a cls d :: lsh) W0 .leaf 0 (defBody st) t m) : FnE P w K mg base (k + 1) f fd ps (fun a cls d => spV K mg 1 [.exc mg a cls d] 0 .leaf fun ds => (runF (1 + lsh.length) 0 m ds).noEx) := by
  obtain ⟨oc, od, kV, doc, pm, an, cdv, ct, osl, rfl, lk, hcd⟩ := G.ex
  refine ⟨hp, fun A outer s H args us Q a oe cls d hr hgd hh hpin hz hf e0 hb r hsp => ?_⟩
  have kin : K.In s.heap := e0.mod.kin.keeps fun b o e => (e0.bs b o e).1
  have nolim : s.heap.NoLimit := e0.mod.nolimit.keeps fun b o e => (e0.bs b o e).1
  have kinds : ∀ y ∈ ps.zip us, (defScope st).names.lookup y.1 = some .local ∨ ((defScope st).names.lookup y.1 = some .cell ∧ ((cellsFrom (s.heap.objs.size + 1) (defScope st).names []).lookup y.1).isSome = true) := by
    rintro ⟨n, v⟩ hy
    cases S.par n (List.of_mem_zip hy).1 with
    | inl q => exact .inl q
    | inr q => exact .inr ⟨q, PySem.W.cellsFrom_some _ _ _ (.inl q)⟩
  refine codeAny_call_function hr.depth (kin _ _ lk) rfl S.co S.gen rfl (PySem.W.codeRec_of kin hcd) (hb _ _ _ _ ?_)
  refine wpAny_newFunctionEnv_cells S.kind kinds fun env he s1 x => ?_
  subst he
  refine ⟨nolim.keeps x.toInCall.keep, codeAny_func ?_⟩
  have hr2 := hr.deeper (PyProof.Rows.envOfC qual (defScope st) s.heap.objs.size f cdv)
  obtain ⟨t, ht⟩ := body { cxOf CX0 P w K mg base N qual (defScope st) f cdv A outer s H (fun _ _ _ => False) with A := calmA (A.deeper (PyProof.Rows.envOfC qual (defScope st) s.heap.objs.size f cdv)), xe := fun _ _ => False } a oe cls d rfl rfl rfl rfl rfl rfl rfl rfl ⟨_, _, _, rfl⟩ ⟨rfl, hr2.dp, hr2.un⟩ hgd hz hf
  have eS : Cx.suite { cxOf CX0 P w K mg base N qual (defScope st) f cdv A outer s H (fun _ _ _ => False) with A := calmA (A.deeper (PyProof.Rows.envOfC qual (defScope st) s.heap.objs.size f cdv)), xe := fun _ _ => False } a [(a, oe)] = (L2H.cxH CX0 P w K mg base N qual (defScope st) f cdv A outer s H (fun _ _ _ => False) (a, oe)).nox :=
    congrArg (fun B => { (L2H.cxH CX0 P w K mg base N qual (defScope st) f cdv A outer s H (fun _ _ _ => False) (a, oe)).nox with A := B }) (calm_mark (A := A.deeper (PyProof.Rows.envOfC qual (defScope st) s.heap.objs.size f cdv)) (v := .ref a) hh)
  rw [eS] at ht
  have ht : SVs (L2H.cxH CX0 P w K mg base N qual (defScope st) f cdv A outer s H (fun _ _ _ => False) (a, oe)).nox (.exc mg a cls d :: lsh) W0 .leaf 0 (defBody st) t m := ht
  have I := L2H.inv_startH (CX := CX0) (P := P) (w := w) (K := K) (mg := mg) (base := base) (E := fun _ _ _ => False) (cd := cdv) (f := f) S hpin e0 (by rw [hp]; rfl) r x
  have hsp2 : spV K mg 1 [.exc mg a cls d] 0 .leaf (runF (1 + lsh.length) 0 m) [.ref a] H Q (fun _ _ _ => False) := by
    obtain ⟨h1, F, fp, ds, r, ok⟩ := hsp
    refine ⟨h1, F, fp, ds, r, ?_⟩
    dsimp only at ok
    cases e : runF (1 + lsh.length) 0 m ds with
    | no => rw [e] at ok; exact ok
    | ok d ρ' => rw [e] at ok; exact ok
    | ex y ρ' => rw [e] at ok; exact (show False from ok).elim
  have hq : t { nx := fun _ H' => Q .non H', rt := Q } (L2.start N [V.ref a]) H := body_ok (E := fun _ _ _ => False) (psh := [.exc mg a cls d]) ht rfl hN (Nat.zero_le _) (.inl rfl) (fun _ _ _ _ z => z) hsp2
  refine wpAny_mono (ht.pe.nox.run [] s1 (L2.start N [V.ref a]) H _ I hq) (fun fl s' hs => ?_) (fun _ _ z => z)
  cases fl with
  | ret u => obtain ⟨v, σ', H', J, rv, q⟩ := hs; exact ⟨v, H', J.os, J.bare, J.base, J.hok, rv, q⟩
  | next => obtain ⟨σ', H', J, q⟩ := hs; exact ⟨.non, H', J.os, J.bare, J.base, J.hok, rfl, q⟩
  | brk => obtain ⟨_, _, _, q⟩ := hs; exact q.elim
  | cont => obtain ⟨_, _, _, q⟩ := hs; exact q.elim
end
/-! ### f(e) in a suite -/
def mCallE (i : Nat) (g : List D → R D) : ME := fun ρ => match own ρ i with
  | some (.ob c fs) => (match g [.ob c fs] with
    | .ok r _ => .ok r ρ
    | _ => .no)
  | _ => .no
structure El (X : Cx) (k : Nat) (x : Str) (g : List D → R D) : Prop where
  ex : ∃ f fd ps, FnE X.prog X.w X.K X.mg X.base k f fd ps (fun a cls d => spV X.K X.mg 1 [.exc X.mg a cls d] 0 .leaf g) ∧ X.mg x = some (.ref f) ∧ PySem.W.keepIn X.K (.ref f) = true ∧ Binds X.K fd ps []
theorem Elp.el {P : Program} {w : World} {K : PySem.W.Frag} {mg : Str → Option Value} {base : Heap} {j k : Nat} {x : Str} {g : List D → R D} (c : Elp P w K mg base j x g) (h : j ≤ k)
    {X : Cx} (h1 : X.prog = P) (h2 : X.w = w) (h3 : X.K = K) (h4 : X.mg = mg) (h5 : X.base = base) : El X k x g := by
  subst h1 h2 h3 h4 h5
  obtain ⟨f, fd, ps, G, hm, hk, hb⟩ := c.ex
  exact ⟨f, fd, ps, G.mono h, hm, hk, hb⟩
section
variable {X : Cx} {ks : List Sh} {W : WX} {i k : Nat} {a : Addr} {cls : Value} {d : Option Addr} {oe : Obj} {pn : List (Addr × Obj)} {f : Str} {p pos : Pos} {g : List D → R D} {e : Expr}
theorem ev_callE (hz : Zc cls d oe) (hf : ∃ vs, oe.data = .fields vs) (c : El X k f g) (hr : Room k X.A) (hgd : X.A.guards = some []) (he : PE (X.suite a ((a, oe) :: pn)) e (tVar i)) (hk : ks[i]? = some (.exc X.mg a cls d) := by rfl) (hg : Gl X f := by rfl) (hdb : (f == ("__debug__" : Str)) = false := by decide)
    (h1 : starEach [e] X.env = (false, eval e X.env) :: starEach [] X.env := by rfl) :
    EV (X.suite a ((a, oe) :: pn)) ks W (.Call (.Name f p) [e] [] pos) .leaf (tCallS (spV X.K X.mg 1 [.exc X.mg a cls d] 0 .leaf g) (fun _ _ _ _ => False) (tCons (tVar i) tNil)) (mCallE i g) := by
  obtain ⟨f', fd, ps, G, hm, hkk, hb⟩ := c.ex
  have pa : PA (X.suite a ((a, oe) :: pn)) [e] (tCons (tVar i) tNil) := pa_cons he pa_nil h1
  refine ⟨⟨fun pins s σ H Q I h => wpAny_Call_Name_kw (ld_glob I hg hm ?_ hdb)⟩, fun ρ σ F H fp Q r hok => ?_⟩
  · have h' : tCons (tVar i) tNil σ H fun vs H1 => vs = [V.ref a] ∧ spV X.K X.mg 1 [.exc X.mg a cls d] 0 .leaf g vs H1 Q (fun _ _ _ => False) := by
      obtain ⟨v, s1, q⟩ := h
      have q' : spV X.K X.mg 1 [.exc X.mg a cls d] 0 .leaf g [v] H Q (fun _ _ _ => False) := q
      refine ⟨v, s1, ?_, q'⟩
      obtain ⟨_, F, fp, ds, r, _⟩ := q'
      have r0 := r.sl
      cases ds with
      | nil => cases r0
      | cons d0 ds =>
        cases r0 with
        | som o _ => cases o; rfl
    refine PySem.W.callWith_K (h₀ := X.base) I.ok.mod.kin hkk (thn (pa.run pos pins s σ H _ I h') fun us s1 ⟨vs, H1, I1, r, ev, q⟩ => ⟨I1.kIn, ?_⟩) h1 rfl
    subst ev
    have hl : (us ++ ([] : List Value)).length = ps.length := by rw [List.append_nil, ← r.length, G.len]; rfl
    have hb' := hb s1 us I1.kIn hl
    rw [List.append_nil] at hb'
    have P1 := I1.pin (a, oe) (List.mem_append_left _ List.mem_cons_self)
    have hpin : L2H.PinOk X.stack H1 s1 (a, oe) := ⟨P1.1, P1.2.1, fun hm => (List.mem_cons.mp (I1.stkSub a hm)).elim P1.2.2.1 P1.2.2.2.1, P1.2.2.2.2⟩
    refine wpAny_call (codeAny_mono (G.run (X.suite a ((a, oe) :: pn)).A X.stack s1 H1 ⟨us, []⟩ us Q a oe cls d ⟨hr.dp, hr.un⟩ hgd rfl hpin hz hf I1.env0 hb' r q) fun r s' hq => ?_)
    match r, hq with
    | .error e, hq => exact (show False from hq).elim
    | .ok (.ret u), hq => exact I1.after hq
    | .ok .next, hq => exact False.elim hq
    | .ok .brk, hq => exact False.elim hq
    | .ok .cont, hq => exact False.elim hq
  · unfold mCallE at hok
    cases e0 : own ρ i with
    | none => rw [e0] at hok; exact (show False from hok).elim
    | some dd =>
      rw [e0] at hok
      cases dd with
      | ob c fs =>
        dsimp only at hok
        obtain ⟨v, fo, fr, s1, o1, _, _⟩ := r.sl.split hk (getE e0)
        refine ⟨v, s1, ?_⟩
        obtain ⟨rfl, ev⟩ : fo = [] ∧ v = .ref a := by cases o1; exact ⟨rfl, rfl⟩
        subst ev
        have rl : RelL X.K F H [.exc X.mg a cls d] [some (.ob c fs)] [some (.ref a)] ([] ++ []) := .som o1 .nil
        refine ⟨rfl, F, [], [.ob c fs], ⟨r.sub, List.nodup_nil, rl⟩, ?_⟩
        cases eg : g [.ob c fs] with
        | no => rw [eg] at hok; exact (show False from hok).elim
        | ex y ρ' => rw [eg] at hok; exact (show False from hok).elim
        | ok d' ρ' =>
          rw [eg] at hok
          dsimp only at hok
          intro v' F' H' fp' fv r' nd x o
          have nd' := List.nodup_append.mp nd
          have back : Alc F H F' H' := ⟨r'.sub, fun a o z => x.keep a o z (by simp)⟩
          obtain ⟨r2, nd2, x2⟩ := back.rel (fv := fv) r (fun y m => (x.fr y (List.mem_append_right _ m)).resolve_left (by simp)) nd'.2.1
          exact hok v' F' H' fp fv r2 nd2 x2 o
      | _ => exact (show False from hok).elim
end
end VL
namespace VL
open PySem PySem.Spec L2
abbrev P : Program := PySem.Challenge.pw_halforder_k75_sayings_clash_and_lead
def topS (i : Nat) : Stmt := P.main.body.getD i (.Pass ⟨0, 0, 0, 0⟩)
structure Gs (mg : Str → Option Value) : Prop where
  b_ValueError : mg "ValueError" = none
  b_all : mg "all" = none
  b_bool : mg "bool" = none
  b_enumerate : mg "enumerate" = none
  b_int : mg "int" = none
  b_isinstance : mg "isinstance" = none
  b_len : mg "len" = none
  b_list : mg "list" = none
  b_range : mg "range" = none
  b_repr : mg "repr" = none
  b_set : mg "set" = none
  b_sorted : mg "sorted" = none
  b_str : mg "str" = none
  b_tuple : mg "tuple" = none
  c_LETTERS : ∃ tk, mg "LETTERS" = some (.str "abcdefghijklmnopqrstuvwxyz" tk)
  c_LONGEST : ∃ tk, mg "LONGEST" = some (.int 8 tk)
  c_MOST_NAMES : ∃ tk, mg "MOST_NAMES" = some (.int 10 tk)
  c_MOST_SAYINGS_halves : ∃ tk, mg "MOST_SAYINGS_halves" = some (.int 60 tk)
  c_MOST_SAYINGS_keeping : ∃ tk, mg "MOST_SAYINGS_keeping" = some (.int 60 tk)
theorem bt_ValueError : bootBuiltins "ValueError" = some (.type "ValueError") := by decide +kernel
theorem bt_all : bootBuiltins "all" = some (.builtin "all") := by decide +kernel
theorem bt_bool : bootBuiltins "bool" = some (.type "bool") := by decide +kernel
theorem bt_int : bootBuiltins "int" = some (.type "int") := by decide +kernel
theorem bt_isinstance : bootBuiltins "isinstance" = some (.builtin "isinstance") := by decide +kernel
theorem bt_len : bootBuiltins "len" = some (.builtin "len") := by decide +kernel
theorem bt_list : bootBuiltins "list" = some (.type "list") := by decide +kernel
theorem bt_repr : bootBuiltins "repr" = some (.builtin "repr") := by decide +kernel
theorem bt_sorted : bootBuiltins "sorted" = some (.builtin "sorted") := by decide +kernel
theorem bt_str : bootBuiltins "str" = some (.type "str") := by decide +kernel
theorem bt_tuple : bootBuiltins "tuple" = some (.type "tuple") := by decide +kernel
section
variable {w : World} {K : PySem.W.Frag} {mg : Str → Option Value} {base : Heap}
abbrev sf_Keeper : List (Str × Sh) := [("names_told", .leaf), ("kept", (.dic .leaf)), ("next_number", .leaf), ("deeds", (.lst .leaf)), ("undone", (.lst .leaf))]
structure Kc_Keeper (K : PySem.W.Frag) (mg : Str → Option Value) (A fI : Addr) : Prop where
  cl : Cls K A
  maker : Mk K A fI
  gl : mg "Keeper" = some (.ref A)
  na_names_told : NoAttr K A "names_told"
  na_kept : NoAttr K A "kept"
  na_next_number : NoAttr K A "next_number"
  na_deeds : NoAttr K A "deeds"
  na_undone : NoAttr K A "undone"
abbrev rf_side (A_Keeper : Addr) : List (Str × Sh) := [("names", .leaf), ("keeper", (.ins A_Keeper sf_Keeper)), ("kept", (.dic .leaf)), ("next", .leaf), ("done", (.lst .leaf)), ("undone", (.lst .leaf))]
theorem nd_side (A_Keeper : Addr) : ((rf_side A_Keeper).map Prod.fst).Nodup := by show (["names", "keeper", "kept", "next", "done", "undone"] : List Str).Nodup; decide
theorem ln_side (A_Keeper : Addr) : (rf_side A_Keeper).length < 1000 := by show 6 < 1000; decide
theorem le_side (A_Keeper : Addr) : (rf_side A_Keeper).length ≤ 15 := by show 6 ≤ 15; decide
structure Xs (w : World) (K : PySem.W.Frag) (mg : Str → Option Value) (base : Heap) (A_Clash A_HalfError A_NoBound A_NoCover A_NoHalf A_NoJoin A_NoMore A_NoName A_NoOrder A_NoPaper A_NoPlace A_NoPlan A_NoSaying A_NoText A_TooMany : Addr) : Prop where
  g_Clash : mg "Clash" = some (.ref A_Clash)
  g_HalfError : mg "HalfError" = some (.ref A_HalfError)
  g_NoBound : mg "NoBound" = some (.ref A_NoBound)
  g_NoCover : mg "NoCover" = some (.ref A_NoCover)
  g_NoHalf : mg "NoHalf" = some (.ref A_NoHalf)
  g_NoJoin : mg "NoJoin" = some (.ref A_NoJoin)
  g_NoMore : mg "NoMore" = some (.ref A_NoMore)
  g_NoName : mg "NoName" = some (.ref A_NoName)
  g_NoOrder : mg "NoOrder" = some (.ref A_NoOrder)
  g_NoPaper : mg "NoPaper" = some (.ref A_NoPaper)
  g_NoPlace : mg "NoPlace" = some (.ref A_NoPlace)
  g_NoPlan : mg "NoPlan" = some (.ref A_NoPlan)
  g_NoSaying : mg "NoSaying" = some (.ref A_NoSaying)
  g_NoText : mg "NoText" = some (.ref A_NoText)
  g_TooMany : mg "TooMany" = some (.ref A_TooMany)
  z_Clash : ExK P w K mg base "Clash" ["way"] A_Clash
  x_Clash : XfC K A_Clash
  e_Clash : ExcC K A_Clash
  n_Clash_way : PySem.W.findIn K (.ref A_Clash) "way" = some none
  h_Clash_HalfError : PySem.W.exmOne K (.ref A_Clash) (.ref A_HalfError) = some true
  z_NoName : ExK P w K mg base "NoName" ["name"] A_NoName
  x_NoName : XfC K A_NoName
  e_NoName : ExcC K A_NoName
  n_NoName_name : PySem.W.findIn K (.ref A_NoName) "name" = some none
  h_NoName_HalfError : PySem.W.exmOne K (.ref A_NoName) (.ref A_HalfError) = some true
  z_NoSaying : ExK P w K mg base "NoSaying" ["number"] A_NoSaying
  x_NoSaying : XfC K A_NoSaying
  e_NoSaying : ExcC K A_NoSaying
  n_NoSaying_number : PySem.W.findIn K (.ref A_NoSaying) "number" = some none
  h_NoSaying_HalfError : PySem.W.exmOne K (.ref A_NoSaying) (.ref A_HalfError) = some true
  z_TooMany : ExK P w K mg base "TooMany" ["word"] A_TooMany
  x_TooMany : XfC K A_TooMany
  e_TooMany : ExcC K A_TooMany
  n_TooMany_word : PySem.W.findIn K (.ref A_TooMany) "word" = some none
  h_TooMany_HalfError : PySem.W.exmOne K (.ref A_TooMany) (.ref A_HalfError) = some true
  z_NoMore : ExN K mg "NoMore" A_NoMore
  x_NoMore : XfC K A_NoMore
  e_NoMore : ExcC K A_NoMore
  h_NoMore_HalfError : PySem.W.exmOne K (.ref A_NoMore) (.ref A_HalfError) = some true
  k_Clash_Clash : PySem.W.kitOne K (.ref A_Clash) (.ref A_Clash) = some true
  k_Clash_NoBound : PySem.W.kitOne K (.ref A_Clash) (.ref A_NoBound) = some false
  k_Clash_NoCover : PySem.W.kitOne K (.ref A_Clash) (.ref A_NoCover) = some false
  k_Clash_NoHalf : PySem.W.kitOne K (.ref A_Clash) (.ref A_NoHalf) = some false
  k_Clash_NoJoin : PySem.W.kitOne K (.ref A_Clash) (.ref A_NoJoin) = some false
  k_Clash_NoMore : PySem.W.kitOne K (.ref A_Clash) (.ref A_NoMore) = some false
  k_Clash_NoName : PySem.W.kitOne K (.ref A_Clash) (.ref A_NoName) = some false
  k_Clash_NoOrder : PySem.W.kitOne K (.ref A_Clash) (.ref A_NoOrder) = some false
  k_Clash_NoPaper : PySem.W.kitOne K (.ref A_Clash) (.ref A_NoPaper) = some false
  k_Clash_NoPlace : PySem.W.kitOne K (.ref A_Clash) (.ref A_NoPlace) = some false
  k_Clash_NoPlan : PySem.W.kitOne K (.ref A_Clash) (.ref A_NoPlan) = some false
  k_Clash_NoSaying : PySem.W.kitOne K (.ref A_Clash) (.ref A_NoSaying) = some false
  k_Clash_NoText : PySem.W.kitOne K (.ref A_Clash) (.ref A_NoText) = some false
  k_Clash_TooMany : PySem.W.kitOne K (.ref A_Clash) (.ref A_TooMany) = some false
  k_Clash_ValueError : PySem.W.kitOne K (.ref A_Clash) (.type "ValueError") = some true
  k_NoMore_Clash : PySem.W.kitOne K (.ref A_NoMore) (.ref A_Clash) = some false
  k_NoMore_NoBound : PySem.W.kitOne K (.ref A_NoMore) (.ref A_NoBound) = some false
  k_NoMore_NoCover : PySem.W.kitOne K (.ref A_NoMore) (.ref A_NoCover) = some false
  k_NoMore_NoHalf : PySem.W.kitOne K (.ref A_NoMore) (.ref A_NoHalf) = some false
  k_NoMore_NoJoin : PySem.W.kitOne K (.ref A_NoMore) (.ref A_NoJoin) = some false
  k_NoMore_NoMore : PySem.W.kitOne K (.ref A_NoMore) (.ref A_NoMore) = some true
  k_NoMore_NoName : PySem.W.kitOne K (.ref A_NoMore) (.ref A_NoName) = some false
  k_NoMore_NoOrder : PySem.W.kitOne K (.ref A_NoMore) (.ref A_NoOrder) = some false
  k_NoMore_NoPaper : PySem.W.kitOne K (.ref A_NoMore) (.ref A_NoPaper) = some false
  k_NoMore_NoPlace : PySem.W.kitOne K (.ref A_NoMore) (.ref A_NoPlace) = some false
  k_NoMore_NoPlan : PySem.W.kitOne K (.ref A_NoMore) (.ref A_NoPlan) = some false
  k_NoMore_NoSaying : PySem.W.kitOne K (.ref A_NoMore) (.ref A_NoSaying) = some false
  k_NoMore_NoText : PySem.W.kitOne K (.ref A_NoMore) (.ref A_NoText) = some false
  k_NoMore_TooMany : PySem.W.kitOne K (.ref A_NoMore) (.ref A_TooMany) = some false
  k_NoMore_ValueError : PySem.W.kitOne K (.ref A_NoMore) (.type "ValueError") = some true
  k_NoName_Clash : PySem.W.kitOne K (.ref A_NoName) (.ref A_Clash) = some false
  k_NoName_NoBound : PySem.W.kitOne K (.ref A_NoName) (.ref A_NoBound) = some false
  k_NoName_NoCover : PySem.W.kitOne K (.ref A_NoName) (.ref A_NoCover) = some false
  k_NoName_NoHalf : PySem.W.kitOne K (.ref A_NoName) (.ref A_NoHalf) = some false
  k_NoName_NoJoin : PySem.W.kitOne K (.ref A_NoName) (.ref A_NoJoin) = some false
  k_NoName_NoMore : PySem.W.kitOne K (.ref A_NoName) (.ref A_NoMore) = some false
  k_NoName_NoName : PySem.W.kitOne K (.ref A_NoName) (.ref A_NoName) = some true
  k_NoName_NoOrder : PySem.W.kitOne K (.ref A_NoName) (.ref A_NoOrder) = some false
  k_NoName_NoPaper : PySem.W.kitOne K (.ref A_NoName) (.ref A_NoPaper) = some false
  k_NoName_NoPlace : PySem.W.kitOne K (.ref A_NoName) (.ref A_NoPlace) = some false
  k_NoName_NoPlan : PySem.W.kitOne K (.ref A_NoName) (.ref A_NoPlan) = some false
  k_NoName_NoSaying : PySem.W.kitOne K (.ref A_NoName) (.ref A_NoSaying) = some false
  k_NoName_NoText : PySem.W.kitOne K (.ref A_NoName) (.ref A_NoText) = some false
  k_NoName_TooMany : PySem.W.kitOne K (.ref A_NoName) (.ref A_TooMany) = some false
  k_NoName_ValueError : PySem.W.kitOne K (.ref A_NoName) (.type "ValueError") = some true
  k_NoSaying_Clash : PySem.W.kitOne K (.ref A_NoSaying) (.ref A_Clash) = some false
  k_NoSaying_NoBound : PySem.W.kitOne K (.ref A_NoSaying) (.ref A_NoBound) = some false
  k_NoSaying_NoCover : PySem.W.kitOne K (.ref A_NoSaying) (.ref A_NoCover) = some false
  k_NoSaying_NoHalf : PySem.W.kitOne K (.ref A_NoSaying) (.ref A_NoHalf) = some false
  k_NoSaying_NoJoin : PySem.W.kitOne K (.ref A_NoSaying) (.ref A_NoJoin) = some false
  k_NoSaying_NoMore : PySem.W.kitOne K (.ref A_NoSaying) (.ref A_NoMore) = some false
  k_NoSaying_NoName : PySem.W.kitOne K (.ref A_NoSaying) (.ref A_NoName) = some false
  k_NoSaying_NoOrder : PySem.W.kitOne K (.ref A_NoSaying) (.ref A_NoOrder) = some false
  k_NoSaying_NoPaper : PySem.W.kitOne K (.ref A_NoSaying) (.ref A_NoPaper) = some false
  k_NoSaying_NoPlace : PySem.W.kitOne K (.ref A_NoSaying) (.ref A_NoPlace) = some false
  k_NoSaying_NoPlan : PySem.W.kitOne K (.ref A_NoSaying) (.ref A_NoPlan) = some false
  k_NoSaying_NoSaying : PySem.W.kitOne K (.ref A_NoSaying) (.ref A_NoSaying) = some true
  k_NoSaying_NoText : PySem.W.kitOne K (.ref A_NoSaying) (.ref A_NoText) = some false
  k_NoSaying_TooMany : PySem.W.kitOne K (.ref A_NoSaying) (.ref A_TooMany) = some false
  k_NoSaying_ValueError : PySem.W.kitOne K (.ref A_NoSaying) (.type "ValueError") = some true
  k_TooMany_Clash : PySem.W.kitOne K (.ref A_TooMany) (.ref A_Clash) = some false
  k_TooMany_NoBound : PySem.W.kitOne K (.ref A_TooMany) (.ref A_NoBound) = some false
  k_TooMany_NoCover : PySem.W.kitOne K (.ref A_TooMany) (.ref A_NoCover) = some false
  k_TooMany_NoHalf : PySem.W.kitOne K (.ref A_TooMany) (.ref A_NoHalf) = some false
  k_TooMany_NoJoin : PySem.W.kitOne K (.ref A_TooMany) (.ref A_NoJoin) = some false
  k_TooMany_NoMore : PySem.W.kitOne K (.ref A_TooMany) (.ref A_NoMore) = some false
  k_TooMany_NoName : PySem.W.kitOne K (.ref A_TooMany) (.ref A_NoName) = some false
  k_TooMany_NoOrder : PySem.W.kitOne K (.ref A_TooMany) (.ref A_NoOrder) = some false
  k_TooMany_NoPaper : PySem.W.kitOne K (.ref A_TooMany) (.ref A_NoPaper) = some false
  k_TooMany_NoPlace : PySem.W.kitOne K (.ref A_TooMany) (.ref A_NoPlace) = some false
  k_TooMany_NoPlan : PySem.W.kitOne K (.ref A_TooMany) (.ref A_NoPlan) = some false
  k_TooMany_NoSaying : PySem.W.kitOne K (.ref A_TooMany) (.ref A_NoSaying) = some false
  k_TooMany_NoText : PySem.W.kitOne K (.ref A_TooMany) (.ref A_NoText) = some false
  k_TooMany_TooMany : PySem.W.kitOne K (.ref A_TooMany) (.ref A_TooMany) = some true
  k_TooMany_ValueError : PySem.W.kitOne K (.ref A_TooMany) (.type "ValueError") = some true
abbrev s_init_Clash : Stmt := clsStm (topS 11) 0
theorem sc_init_Clash : FnScope ["self", "way"] ["self", "way"] (defScope s_init_Clash) := ⟨rfl, rfl, rfl, by decide +kernel, rfl, by decide +kernel, by decide +kernel⟩
theorem in_Clash {B C fI : Addr} {fd : FuncData} (G : L2.Fun K "__init__" "Clash.__init__" s_init_Clash fI fd) (gB : mg "HalfError" = some (.ref B)) (rd : ClX.CRead K B (.type "type")) (vV : PySem.W.findCls K (.ref B) (.type "type") "__init__" = some (.val (.builtin "ValueError.__init__"))) (T : OexC K C) (no_way : PySem.W.findIn K (.ref C) "way" = some none) : FnOk P w K mg base CX0 1 fI fd ["self", "way"] (spI K C ["way"]) := by
  refine G.ok (k := 0) sc_init_Clash (fun vs H Q E h => ?_) fun cdv A outer s H vs Q E hr hsp => ?_
  · obtain ⟨a, ws, rfl, hl, _⟩ := h
    rw [List.length_cons, hl]; rfl
  · exact ⟨_, pss_cons (ps_expr (pe_cinit rfl gB rd vV (pa_cons (pv 0) (pa_cons (pv 1) pa_nil)))) (pss_one (ps_ost (pv 0) (pv 1))), init_end1 T no_way hsp rfl⟩
abbrev s_init_NoName : Stmt := clsStm (topS 5) 0
theorem sc_init_NoName : FnScope ["self", "name"] ["self", "name"] (defScope s_init_NoName) := ⟨rfl, rfl, rfl, by decide +kernel, rfl, by decide +kernel, by decide +kernel⟩
theorem in_NoName {B C fI : Addr} {fd : FuncData} (G : L2.Fun K "__init__" "NoName.__init__" s_init_NoName fI fd) (gB : mg "HalfError" = some (.ref B)) (rd : ClX.CRead K B (.type "type")) (vV : PySem.W.findCls K (.ref B) (.type "type") "__init__" = some (.val (.builtin "ValueError.__init__"))) (T : OexC K C) (no_name : PySem.W.findIn K (.ref C) "name" = some none) : FnOk P w K mg base CX0 1 fI fd ["self", "name"] (spI K C ["name"]) := by
  refine G.ok (k := 0) sc_init_NoName (fun vs H Q E h => ?_) fun cdv A outer s H vs Q E hr hsp => ?_
  · obtain ⟨a, ws, rfl, hl, _⟩ := h
    rw [List.length_cons, hl]; rfl
  · exact ⟨_, pss_cons (ps_expr (pe_cinit rfl gB rd vV (pa_cons (pv 0) (pa_cons (pv 1) pa_nil)))) (pss_one (ps_ost (pv 0) (pv 1))), init_end1 T no_name hsp rfl⟩
abbrev s_init_NoSaying : Stmt := clsStm (topS 15) 0
theorem sc_init_NoSaying : FnScope ["self", "number"] ["self", "number"] (defScope s_init_NoSaying) := ⟨rfl, rfl, rfl, by decide +kernel, rfl, by decide +kernel, by decide +kernel⟩
theorem in_NoSaying {B C fI : Addr} {fd : FuncData} (G : L2.Fun K "__init__" "NoSaying.__init__" s_init_NoSaying fI fd) (gB : mg "HalfError" = some (.ref B)) (rd : ClX.CRead K B (.type "type")) (vV : PySem.W.findCls K (.ref B) (.type "type") "__init__" = some (.val (.builtin "ValueError.__init__"))) (T : OexC K C) (no_number : PySem.W.findIn K (.ref C) "number" = some none) : FnOk P w K mg base CX0 1 fI fd ["self", "number"] (spI K C ["number"]) := by
  refine G.ok (k := 0) sc_init_NoSaying (fun vs H Q E h => ?_) fun cdv A outer s H vs Q E hr hsp => ?_
  · obtain ⟨a, ws, rfl, hl, _⟩ := h
    rw [List.length_cons, hl]; rfl
  · exact ⟨_, pss_cons (ps_expr (pe_cinit rfl gB rd vV (pa_cons (pv 0) (pa_cons (pv 1) pa_nil)))) (pss_one (ps_ost (pv 0) (pv 1))), init_end1 T no_number hsp rfl⟩
abbrev s_init_TooMany : Stmt := clsStm (topS 6) 0
theorem sc_init_TooMany : FnScope ["self", "word"] ["self", "word"] (defScope s_init_TooMany) := ⟨rfl, rfl, rfl, by decide +kernel, rfl, by decide +kernel, by decide +kernel⟩
theorem in_TooMany {B C fI : Addr} {fd : FuncData} (G : L2.Fun K "__init__" "TooMany.__init__" s_init_TooMany fI fd) (gB : mg "HalfError" = some (.ref B)) (rd : ClX.CRead K B (.type "type")) (vV : PySem.W.findCls K (.ref B) (.type "type") "__init__" = some (.val (.builtin "ValueError.__init__"))) (T : OexC K C) (no_word : PySem.W.findIn K (.ref C) "word" = some none) : FnOk P w K mg base CX0 1 fI fd ["self", "word"] (spI K C ["word"]) := by
  refine G.ok (k := 0) sc_init_TooMany (fun vs H Q E h => ?_) fun cdv A outer s H vs Q E hr hsp => ?_
  · obtain ⟨a, ws, rfl, hl, _⟩ := h
    rw [List.length_cons, hl]; rfl
  · exact ⟨_, pss_cons (ps_expr (pe_cinit rfl gB rd vV (pa_cons (pv 0) (pa_cons (pv 1) pa_nil)))) (pss_one (ps_ost (pv 0) (pv 1))), init_end1 T no_word hsp rfl⟩
/-! is_name -/
abbrev s_is_name : Stmt := topS 27
theorem sc_is_name : FnScope ["thing", "sign"] ["thing"] (defScope s_is_name) := ⟨rfl, rfl, rfl, by decide +kernel, rfl, by decide +kernel, by decide +kernel⟩
def m_is_name : MS :=
  (mSeq (mIfS (mOr (mNot (mTest (mOpN (two isiD) (mOCons (mV (mVar 0)) (mOCons (mV (mC (.ty "str"))) mONil))))) (mNot (mTest (mChain leD leD (mC (.int 1)) (mOpN (one lenD) (mOCons (mV (mVar 0)) mONil)) (mC (.int 8)))))) (mRet (mC (.bl false))) mNx)
  (mRet (mOpN (one allD) (mOCons (mV (mLc (mSs (mVar 0)) (kName 1) mYes (mOp2 inD (mV (mVar 1)) (mV (mC (.str "abcdefghijklmnopqrstuvwxyz")))) [1])) mONil))))
def g_is_name : List D → R D := fun ds => (runF 2 0 m_is_name ds).noEx
theorem fn_is_name {f : Addr} {fd : FuncData} (G : L2.Fun K "is_name" "is_name" s_is_name f fd) (gs : Gs mg) : FnG P w K mg base CX0 1 f fd ["thing"] (spV K mg 1 (leaves 1) 0 .leaf g_is_name) := by
  refine Fun.okG (k := 0) (n := 1) (psh := (leaves 1)) (lsh := [.leaf]) (fx := 0) (rsh := .leaf) (m := m_is_name) G sc_is_name rfl rfl rfl (by decide) (.inl rfl) fun X h1 h2 h3 h4 h5 h6 h7 h8 h9 henv hr hgd => ?_
  obtain ⟨xP, xw, xK, xmg, xb, xA, xN, xs, xH, xe, xo, xst, xex, xfn, xc, xpn, xx⟩ := X
  obtain ⟨xL, xf, xcd, henv⟩ := henv
  dsimp only at h1 h2 h3 h4 h5 h6 h7 h8 h9 henv hr hgd
  subst h1 h2 h3 h4 h5 h6 h7 h8 h9 henv
  obtain ⟨tk_LETTERS, g_LETTERS⟩ := gs.c_LETTERS
  obtain ⟨tk_LONGEST, g_LONGEST⟩ := gs.c_LONGEST
  exact ⟨_, (svs_cons (sv_if (et_w (ew_or (et_not (et_val (ev_callB (k_isi xK rfl) (s_isi (K := xK)) (eos_cons (eo_of (ev_var 0)) (eos_cons (eo_of (ev_ty gs.b_str bt_str)) eos_nil)) gs.b_isinstance bt_isinstance))) (ew_or1 (et_not (et_chain op_le s_b op_le s_b ev_int (ev_callB (k_len xK rfl) (s_len (K := xK)) (eos_cons (eo_of (ev_var 0)) eos_nil) gs.b_len bt_len) (ev_globI g_LONGEST)))))) (svs_one (sv_ret ev_bl)) svs_nil)
    (svs_one (sv_ret (ev_callB (k_all xK rfl rfl) (s_all (K := xK)) (eos_cons (eo_of (ev_frz (ev_lc (own := [("sign", 1)]) rfl sc_is_name.nd (iv_str (ev_var 0)) (blkOk_by (N := ["thing", "sign"]) (sc := defScope s_is_name) (own := [("sign", 1)]) (by decide +kernel)) (by decide) (hk1 rfl) (fun _ _ _ _ _ => (gv_name sc_is_name.nd (i := 1) rfl (by first | exact .inl rfl | exact .inr rfl) rfl (fun σ x => tw_set (by decide) σ x))) (fun _ _ _ _ _ => ets_nil) (fun _ _ _ _ _ => (ev_cmp (k_in xK rfl (hu64 hr)) (s_in (K := xK)) (eo_of (ev_var 1)) (eo_of (ev_globS g_LETTERS)) (by first | exact nomark _ | rfl)))))) eos_nil) gs.b_all bt_all))))⟩

/-! are_names -/
abbrev s_are_names : Stmt := topS 31
theorem sc_are_names : FnScope ["thing", "one"] ["thing"] (defScope s_are_names) := ⟨rfl, rfl, rfl, by decide +kernel, rfl, by decide +kernel, by decide +kernel⟩
def m_are_names : MS :=
  (mSeq (mIfS (mOr (mNot (mTest (mOpN (two isiD) (mOCons (mV (mVar 0)) (mOCons (mV (mC (.ty "tuple"))) mONil))))) (mTest (mOp2 gtD (mV (mOpN (one lenD) (mOCons (mV (mVar 0)) mONil))) (mV (mC (.int 10)))))) (mRet (mC (.bl false))) mNx)
  (mRet (mAndV (mOpN (one allD) (mOCons (mV (mLc (mTs (mVar 0)) (kName 1) mYes (mCall0 1 g_is_name (mCons (mVar 1) mNil)) [1])) mONil)) (mOp2 eqD (mV (mOpN (one lsetD) (mOCons (mV (mVar 0)) mONil))) (mV (mOpN (one lenD) (mOCons (mV (mVar 0)) mONil)))))))
def g_are_names : List D → R D := fun ds => (runF 2 0 m_are_names ds).noEx
theorem fn_are_names {f : Addr} {fd : FuncData} (G : L2.Fun K "are_names" "are_names" s_are_names f fd) (gs : Gs mg) (c_is_name : Clp P w K mg base CX0 1 "is_name" 1 (leaves 1) 0 .leaf g_is_name) : FnG P w K mg base CX0 2 f fd ["thing"] (spV K mg 1 (leaves 1) 0 .leaf g_are_names) := by
  refine Fun.okG (k := 1) (n := 1) (psh := (leaves 1)) (lsh := [.leaf]) (fx := 0) (rsh := .leaf) (m := m_are_names) G sc_are_names rfl rfl rfl (by decide) (.inl rfl) fun X h1 h2 h3 h4 h5 h6 h7 h8 h9 henv hr hgd => ?_
  obtain ⟨xP, xw, xK, xmg, xb, xA, xN, xs, xH, xe, xo, xst, xex, xfn, xc, xpn, xx⟩ := X
  obtain ⟨xL, xf, xcd, henv⟩ := henv
  dsimp only at h1 h2 h3 h4 h5 h6 h7 h8 h9 henv hr hgd
  subst h1 h2 h3 h4 h5 h6 h7 h8 h9 henv
  obtain ⟨tk_MOST_NAMES, g_MOST_NAMES⟩ := gs.c_MOST_NAMES
  exact ⟨_, (svs_cons (sv_if (et_w (ew_or (et_not (et_val (ev_callB (k_isi xK rfl) (s_isi (K := xK)) (eos_cons (eo_of (ev_var 0)) (eos_cons (eo_of (ev_ty gs.b_tuple bt_tuple)) eos_nil)) gs.b_isinstance bt_isinstance))) (ew_or1 (et_cmp op_gt s_b (eo_of (ev_callB (k_len xK rfl) (s_len (K := xK)) (eos_cons (eo_of (ev_var 0)) eos_nil) gs.b_len bt_len)) (eo_of (ev_globI g_MOST_NAMES)) (by first | exact nomark _ | rfl))))) (svs_one (sv_ret ev_bl)) svs_nil)
    (svs_one (sv_ret (ev_and (ev_callB (k_all xK rfl rfl) (s_all (K := xK)) (eos_cons (eo_of (ev_frz (ev_lc (own := [("one", 1)]) rfl sc_are_names.nd (kv_tup xK rfl (ev_var 0)) (blkOk_by (N := ["thing", "one"]) (sc := defScope s_are_names) (own := [("one", 1)]) (by decide +kernel)) (by decide) (hk1 rfl) (fun _ _ _ _ _ => (gv_name sc_are_names.nd (i := 1) rfl (by first | exact .inl rfl | exact .inr rfl) rfl (fun σ x => tw_set (by decide) σ x))) (fun _ _ _ _ _ => ets_nil) (fun _ _ _ _ _ => (kv_call0 xK rfl xmg rfl (c_is_name.cl (by decide) rfl rfl rfl rfl rfl) px0 hr hgd (ea_cons (ev_var 1) ea_nil)))))) eos_nil) gs.b_all bt_all) (ev_one (ev_cmp (k_eq xK rfl (hu65 hr)) (s_eq (K := xK)) (eo_of (ev_lset xK rfl rfl (eos_cons (eo_of (ev_var 0)) eos_nil) gs.b_len gs.b_set)) (eo_of (ev_callB (k_len xK rfl) (s_len (K := xK)) (eos_cons (eo_of (ev_var 0)) eos_nil) gs.b_len bt_len)) (by first | exact nomark _ | rfl)))))))⟩

/-! is_saying -/
abbrev s_is_saying : Stmt := topS 32
theorem sc_is_saying : FnScope ["names", "thing", "one"] ["names", "thing"] (defScope s_is_saying) := ⟨rfl, rfl, rfl, by decide +kernel, rfl, by decide +kernel, by decide +kernel⟩
def m_is_saying : MS :=
  (mSeq (mIfS (mOr (mNot (mTest (mOpN (two isiD) (mOCons (mV (mVar 1)) (mOCons (mV (mC (.ty "tuple"))) mONil))))) (mTest (mOp2 neD (mV (mOpN (one lenD) (mOCons (mV (mVar 1)) mONil))) (mV (mC (.int 2)))))) (mRet (mC (.bl false))) mNx)
  (mRet (mOpN (one allD) (mOCons (mV (mLc (mTs (mVar 1)) (kName 2) mYes (mAndV (mCall0 1 g_is_name (mCons (mVar 2) mNil)) (mOp2 inD (mV (mVar 2)) (mV (mVar 0)))) [2])) mONil))))
def g_is_saying : List D → R D := fun ds => (runF 3 0 m_is_saying ds).noEx
theorem fn_is_saying {f : Addr} {fd : FuncData} (G : L2.Fun K "is_saying" "is_saying" s_is_saying f fd) (gs : Gs mg) (c_is_name : Clp P w K mg base CX0 1 "is_name" 1 (leaves 1) 0 .leaf g_is_name) : FnG P w K mg base CX0 2 f fd ["names", "thing"] (spV K mg 2 (leaves 2) 0 .leaf g_is_saying) := by
  refine Fun.okG (k := 1) (n := 2) (psh := (leaves 2)) (lsh := [.leaf]) (fx := 0) (rsh := .leaf) (m := m_is_saying) G sc_is_saying rfl rfl rfl (by decide) (.inl rfl) fun X h1 h2 h3 h4 h5 h6 h7 h8 h9 henv hr hgd => ?_
  obtain ⟨xP, xw, xK, xmg, xb, xA, xN, xs, xH, xe, xo, xst, xex, xfn, xc, xpn, xx⟩ := X
  obtain ⟨xL, xf, xcd, henv⟩ := henv
  dsimp only at h1 h2 h3 h4 h5 h6 h7 h8 h9 henv hr hgd
  subst h1 h2 h3 h4 h5 h6 h7 h8 h9 henv
  exact ⟨_, (svs_cons (sv_if (et_w (ew_or (et_not (et_val (ev_callB (k_isi xK rfl) (s_isi (K := xK)) (eos_cons (eo_of (ev_var 1)) (eos_cons (eo_of (ev_ty gs.b_tuple bt_tuple)) eos_nil)) gs.b_isinstance bt_isinstance))) (ew_or1 (et_cmp (k_ne xK rfl (hu65 hr)) (s_ne (K := xK)) (eo_of (ev_callB (k_len xK rfl) (s_len (K := xK)) (eos_cons (eo_of (ev_var 1)) eos_nil) gs.b_len bt_len)) (eo_of ev_int) (by first | exact nomark _ | rfl))))) (svs_one (sv_ret ev_bl)) svs_nil)
    (svs_one (sv_ret (ev_callB (k_all xK rfl rfl) (s_all (K := xK)) (eos_cons (eo_of (ev_frz (ev_lc (own := [("one", 2)]) rfl sc_is_saying.nd (kv_tup xK rfl (ev_var 1)) (blkOk_by (N := ["names", "thing", "one"]) (sc := defScope s_is_saying) (own := [("one", 2)]) (by decide +kernel)) (by decide) (hk1 rfl) (fun _ _ _ _ _ => (gv_name sc_is_saying.nd (i := 2) rfl (by first | exact .inl rfl | exact .inr rfl) rfl (fun σ x => tw_set (by decide) σ x))) (fun _ _ _ _ _ => ets_nil) (fun _ _ _ _ _ => (ev_and (kv_call0 xK rfl xmg rfl (c_is_name.cl (by decide) rfl rfl rfl rfl rfl) px0 hr hgd (ea_cons (ev_var 2) ea_nil)) (ev_one (ev_cmp (k_in xK rfl (hu64 hr)) (s_in (K := xK)) (eo_of (ev_var 2)) (eo_of (ev_var 0)) (by first | exact nomark _ | rfl)))))))) eos_nil) gs.b_all bt_all))))⟩

/-! has_form -/
abbrev s_has_form : Stmt := topS 33
theorem sc_has_form : FnScope ["thing"] ["thing"] (defScope s_has_form) := ⟨rfl, rfl, rfl, by decide +kernel, rfl, by decide +kernel, by decide +kernel⟩
def m_has_form : MS :=
  (mSeq (mIfS (mOr (mNot (mTest (mOpN (two isiD) (mOCons (mV (mVar 0)) (mOCons (mV (mC (.ty "tuple"))) mONil))))) (mOr (mTest (mOp2 neD (mV (mOpN (one lenD) (mOCons (mV (mVar 0)) mONil))) (mV (mC (.int 2))))) (mNot (mTest (mCall0 1 g_are_names (mCons (mOp2 ixD (mV (mVar 0)) (mV (mC (.int 0)))) mNil)))))) (mRet (mC (.bl false))) mNx)
  (mRet (mAndV (mOpN (two isiD) (mOCons (mV (mOp2 ixD (mV (mVar 0)) (mV (mC (.int 1))))) (mOCons (mV (mC (.ty "tuple"))) mONil))) (mOp2 leD (mV (mOpN (one lenD) (mOCons (mV (mOp2 ixD (mV (mVar 0)) (mV (mC (.int 1))))) mONil))) (mV (mC (.int 60)))))))
def g_has_form : List D → R D := fun ds => (runF 1 0 m_has_form ds).noEx
theorem fn_has_form {f : Addr} {fd : FuncData} (G : L2.Fun K "has_form" "has_form" s_has_form f fd) (gs : Gs mg) (c_are_names : Clp P w K mg base CX0 2 "are_names" 1 (leaves 1) 0 .leaf g_are_names) : FnG P w K mg base CX0 3 f fd ["thing"] (spV K mg 1 (leaves 1) 0 .leaf g_has_form) := by
  refine Fun.okG (k := 2) (n := 1) (psh := (leaves 1)) (lsh := []) (fx := 0) (rsh := .leaf) (m := m_has_form) G sc_has_form rfl rfl rfl (by decide) (.inl rfl) fun X h1 h2 h3 h4 h5 h6 h7 h8 h9 henv hr hgd => ?_
  obtain ⟨xP, xw, xK, xmg, xb, xA, xN, xs, xH, xe, xo, xst, xex, xfn, xc, xpn, xx⟩ := X
  obtain ⟨xL, xf, xcd, henv⟩ := henv
  dsimp only at h1 h2 h3 h4 h5 h6 h7 h8 h9 henv hr hgd
  subst h1 h2 h3 h4 h5 h6 h7 h8 h9 henv
  obtain ⟨tk_MOST_SAYINGS_halves, g_MOST_SAYINGS_halves⟩ := gs.c_MOST_SAYINGS_halves
  exact ⟨_, (svs_cons (sv_if (et_w (ew_or (et_not (et_val (ev_callB (k_isi xK rfl) (s_isi (K := xK)) (eos_cons (eo_of (ev_var 0)) (eos_cons (eo_of (ev_ty gs.b_tuple bt_tuple)) eos_nil)) gs.b_isinstance bt_isinstance))) (ew_or (et_cmp (k_ne xK rfl (hu65 hr)) (s_ne (K := xK)) (eo_of (ev_callB (k_len xK rfl) (s_len (K := xK)) (eos_cons (eo_of (ev_var 0)) eos_nil) gs.b_len bt_len)) (eo_of ev_int) (by first | exact nomark _ | rfl)) (ew_or1 (et_not (et_val (kv_call0 xK rfl xmg rfl (c_are_names.cl (by decide) rfl rfl rfl rfl rfl) px0 hr hgd (ea_cons (ev_ix (k_ix xK rfl (hu1 hr)) (s_ix (K := xK)) (eo_of (ev_var 0)) (eo_of ev_int)) ea_nil)))))))) (svs_one (sv_ret ev_bl)) svs_nil)
    (svs_one (sv_ret (ev_and (ev_callB (k_isi xK rfl) (s_isi (K := xK)) (eos_cons (eo_of (ev_ix (k_ix xK rfl (hu1 hr)) (s_ix (K := xK)) (eo_of (ev_var 0)) (eo_of ev_int))) (eos_cons (eo_of (ev_ty gs.b_tuple bt_tuple)) eos_nil)) gs.b_isinstance bt_isinstance) (ev_one (ev_cmp op_le s_b (eo_of (ev_callB (k_len xK rfl) (s_len (K := xK)) (eos_cons (eo_of (ev_ix (k_ix xK rfl (hu1 hr)) (s_ix (K := xK)) (eo_of (ev_var 0)) (eo_of ev_int))) eos_nil) gs.b_len bt_len)) (eo_of (ev_globI g_MOST_SAYINGS_halves)) (by first | exact nomark _ | rfl)))))))⟩

/-! way_by -/
abbrev s_way_by : Stmt := topS 34
theorem sc_way_by : FnScope ["sayings", "begin", "end", "ways", "waiting", "name", "number", "one", "other"] ["sayings", "begin", "end"] (defScope s_way_by) := ⟨rfl, rfl, rfl, by decide +kernel, rfl, by decide +kernel, by decide +kernel⟩
noncomputable def m_way_by : MS :=
  (mSeq (mSet 3 (mDisp (mPCons (mVar 1) (mTup mNil) mPNil)))
  (mSeq (mSet 4 (mLst (mCons (mVar 1) mNil)))
  (mSeq (mWhile (mTest (mOp2 gtD (mV (mOpN (one lenD) (mOCons (mS 4) mONil))) (mV (mC (.int 0))))) (mSeq (mSet 5 (mMtL 4 popD (mCons (mC (.int 0)) mNil)))
  (mLoop (kTup' 2 (kCons (kName 6) (kCons (kTup' 2 (kCons (kName 7) (kCons (kName 8) kNil))) kNil))) (mSeq (mIfS (mAnd (mTest (mOp2 eqD (mV (mVar 7)) (mV (mVar 5)))) (mTest (mOp2 eqD (mV (mVar 8)) (mV (mVar 2))))) (mRet (mOp2 addD (mV (mOp2 ixD (mS 3) (mV (mVar 5)))) (mV (mTup (mCons (mVar 6) mNil))))) mNx)
  (mIfS (mAnd (mTest (mOp2 eqD (mV (mVar 7)) (mV (mVar 5)))) (mTest (mOp2 ninD (mV (mVar 8)) (mS 3)))) (mSeq (mPut 3 (mVar 8) (mOp2 addD (mV (mOp2 ixD (mS 3) (mV (mVar 5)))) (mV (mTup (mCons (mVar 6) mNil)))))
  (mDrop (mMtL 4 appendD (mCons (mVar 8) mNil)))) mNx)) (mEnT (mVar 0)))))
  (mRet (mC .non)))))
noncomputable def g_way_by : List D → R D := fun ds => (runF 9 0 m_way_by ds).noEx
theorem fn_way_by {f : Addr} {fd : FuncData} (G : L2.Fun K "way_by" "way_by" s_way_by f fd) (gs : Gs mg) : FnG P w K mg base CX0 1 f fd ["sayings", "begin", "end"] (spV K mg 3 (leaves 3) 0 .leaf g_way_by) := by
  refine Fun.okG (k := 0) (n := 3) (psh := (leaves 3)) (lsh := [(.dic .leaf), (.lst .leaf), .leaf, .leaf, .leaf, .leaf]) (fx := 0) (rsh := .leaf) (m := m_way_by) G sc_way_by rfl rfl rfl (by decide) (.inl rfl) fun X h1 h2 h3 h4 h5 h6 h7 h8 h9 henv hr hgd => ?_
  obtain ⟨xP, xw, xK, xmg, xb, xA, xN, xs, xH, xe, xo, xst, xex, xfn, xc, xpn, xx⟩ := X
  obtain ⟨xL, xf, xcd, henv⟩ := henv
  dsimp only at h1 h2 h3 h4 h5 h6 h7 h8 h9 henv hr hgd
  subst h1 h2 h3 h4 h5 h6 h7 h8 h9 henv
  exact ⟨_, (svs_cons (sv_set (i := 3) rfl (by decide) sc_way_by.nd rfl (by first | exact .inl rfl | exact .inr rfl) (ev_disp (eps_cons (ev_var 1) (ev_tup ea_nil) eps_nil)))
    (svs_cons (sv_set (i := 4) rfl (by decide) sc_way_by.nd rfl (by first | exact .inl rfl | exact .inr rfl) (ev_lst (ea_cons (ev_var 1) ea_nil)))
    (svs_cons (sv_while PassesOwn.never (et_cmp op_gt s_b (eo_of (ev_callB (k_len xK rfl) (s_len (K := xK)) (eos_cons (eo_own 4) eos_nil) gs.b_len bt_len)) (eo_of ev_int) (by first | exact nomark _ | rfl)) (svs_cons (sv_set (i := 5) rfl (by decide) sc_way_by.nd rfl (by first | exact .inl rfl | exact .inr rfl) (ev_mtL 4 PySem.F.slot_list_pop PySem.F.type_list_pop mt_popU m_pop (ea_cons ev_int ea_nil)))
    (svs_one (sv_for PassesOwn.never rfl (kv_enumT xK rfl (ev_var 0) gs.b_enumerate) (kv_gtup xK rfl rfl (n := 2) (gvs_cons (tk_rel _) (gv_name sc_way_by.nd (i := 6) rfl (by first | exact .inl rfl | exact .inr rfl) rfl (fun σ x => tk_set (by decide) σ x)) (gvs_cons (tk_rel _) (kv_gtup xK rfl rfl (n := 2) (gvs_cons (tk_rel _) (gv_name sc_way_by.nd (i := 7) rfl (by first | exact .inl rfl | exact .inr rfl) rfl (fun σ x => tk_set (by decide) σ x)) (gvs_cons (tk_rel _) (gv_name sc_way_by.nd (i := 8) rfl (by first | exact .inl rfl | exact .inr rfl) rfl (fun σ x => tk_set (by decide) σ x)) (gvs_nil (tk_rel _))))) (gvs_nil (tk_rel _))))) (svs_cons (sv_if (et_w (ew_and (et_cmp (k_eq xK rfl (hu65 hr)) (s_eq (K := xK)) (eo_of (ev_var 7)) (eo_of (ev_var 5)) (by first | exact nomark _ | rfl)) (ew_and1 (et_cmp (k_eq xK rfl (hu65 hr)) (s_eq (K := xK)) (eo_of (ev_var 8)) (eo_of (ev_var 2)) (by first | exact nomark _ | rfl))))) (svs_one (sv_ret (ev_op (k_add xK rfl) (s_add (K := xK)) (eo_of (ev_ix (k_ix xK rfl (hu1 hr)) (s_ix (K := xK)) (eo_own 3) (eo_of (ev_var 5)))) (eo_of (ev_tup (ea_cons (ev_var 6) ea_nil)))))) svs_nil)
    (svs_one (sv_if (et_w (ew_and (et_cmp (k_eq xK rfl (hu65 hr)) (s_eq (K := xK)) (eo_of (ev_var 7)) (eo_of (ev_var 5)) (by first | exact nomark _ | rfl)) (ew_and1 (et_cmp (k_nin xK rfl (hu64 hr)) (s_nin (K := xK)) (eo_of (ev_var 8)) (eo_own 3) (by first | exact nomark _ | rfl))))) (svs_cons (sv_dput 3 (hu1 hr) (ev_var 8) (ev_op (k_add xK rfl) (s_add (K := xK)) (eo_of (ev_ix (k_ix xK rfl (hu1 hr)) (s_ix (K := xK)) (eo_own 3) (eo_of (ev_var 5)))) (eo_of (ev_tup (ea_cons (ev_var 6) ea_nil)))))
    (svs_one (sv_expr (ev_mtL 4 PySem.F.slot_list_append PySem.F.type_list_append mt_append m_append (ea_cons (ev_var 8) ea_nil))))) svs_nil)))))))
    (svs_one (sv_ret ev_non)))))⟩

/-! right_half -/
abbrev s_right_half : Stmt := topS 35
theorem sc_right_half : FnScope ["thing", "names", "sayings", "k", "one", "other"] ["thing"] (defScope s_right_half) := ⟨rfl, rfl, rfl, by decide +kernel, rfl, by decide +kernel, by decide +kernel⟩
noncomputable def m_right_half : MS :=
  (mSeq (mIfS (mNot (mTest (mCall0 1 g_has_form (mCons (mVar 0) mNil)))) (fun _ => .no) mNx)
  (mSeq (mAsg (kTup' 2 (kCons (kName 1) (kCons (kName 2) kNil))) (mVar 0))
  (mSeq (mLoop (kName 3) (mIfS (mNot (mTest (mCall0 2 g_is_saying (mCons (mVar 1) (mCons (mOp2 ixD (mV (mVar 2)) (mV (mVar 3))) mNil))))) (fun _ => .no) mNx) (mR1 (mCons (mOpN (one lenD) (mOCons (mV (mVar 2)) mONil)) mNil)))
  (mSeq (mLoop (kName 3) (mSeq (mAsg (kTup' 2 (kCons (kName 4) (kCons (kName 5) kNil))) (mOp2 ixD (mV (mVar 2)) (mV (mVar 3))))
  (mIfS (mOr (mTest (mOp2 eqD (mV (mVar 4)) (mV (mVar 5)))) (mTest (mOp2 notND (mV (mCall0 3 g_way_by (mCons (mSl cutD (mV (mVar 2)) mNoPart (mPart (mVar 3))) (mCons (mVar 5) (mCons (mVar 4) mNil))))) (mV (mC .non))))) (fun _ => .no) mNx)) (mR1 (mCons (mOpN (one lenD) (mOCons (mV (mVar 2)) mONil)) mNil)))
  (mRet (mC (.bl true)))))))
noncomputable def g_right_half : List D → R D := fun ds => (runF 6 0 m_right_half ds).noEx
theorem fn_right_half {f : Addr} {fd : FuncData} (G : L2.Fun K "right_half" "right_half" s_right_half f fd) (gs : Gs mg) (c_has_form : Clp P w K mg base CX0 3 "has_form" 1 (leaves 1) 0 .leaf g_has_form) (c_is_saying : Clp P w K mg base CX0 2 "is_saying" 2 (leaves 2) 0 .leaf g_is_saying) (c_way_by : Clp P w K mg base CX0 1 "way_by" 3 (leaves 3) 0 .leaf g_way_by) : FnG P w K mg base CX0 4 f fd ["thing"] (spV K mg 1 (leaves 1) 0 .leaf g_right_half) := by
  refine Fun.okG (k := 3) (n := 1) (psh := (leaves 1)) (lsh := [.leaf, .leaf, .leaf, .leaf, .leaf]) (fx := 0) (rsh := .leaf) (m := m_right_half) G sc_right_half rfl rfl rfl (by decide) (.inl rfl) fun X h1 h2 h3 h4 h5 h6 h7 h8 h9 henv hr hgd => ?_
  obtain ⟨xP, xw, xK, xmg, xb, xA, xN, xs, xH, xe, xo, xst, xex, xfn, xc, xpn, xx⟩ := X
  obtain ⟨xL, xf, xcd, henv⟩ := henv
  dsimp only at h1 h2 h3 h4 h5 h6 h7 h8 h9 henv hr hgd
  subst h1 h2 h3 h4 h5 h6 h7 h8 h9 henv
  exact ⟨_, (svs_cons (sv_if (et_not (et_val (kv_call0 xK rfl xmg rfl (c_has_form.cl (by decide) rfl rfl rfl rfl rfl) px0 hr hgd (ea_cons (ev_var 0) ea_nil)))) (svs_one sv_no) svs_nil)
    (svs_cons (sv_asg (ev_var 0) (kv_gtup xK rfl rfl (n := 2) (gvs_cons (tk_rel _) (gv_name sc_right_half.nd (i := 1) rfl (by first | exact .inl rfl | exact .inr rfl) rfl (fun σ x => tk_set (by decide) σ x)) (gvs_cons (tk_rel _) (gv_name sc_right_half.nd (i := 2) rfl (by first | exact .inl rfl | exact .inr rfl) rfl (fun σ x => tk_set (by decide) σ x)) (gvs_nil (tk_rel _))))))
    (svs_cons (sv_for PassesOwn.never rfl (iv_rng1 (ea_cons (ev_callB (k_len xK rfl) (s_len (K := xK)) (eos_cons (eo_of (ev_var 2)) eos_nil) gs.b_len bt_len) ea_nil) gs.b_range) (gv_name sc_right_half.nd (i := 3) rfl (by first | exact .inl rfl | exact .inr rfl) rfl (fun σ x => tk_set (by decide) σ x)) (svs_one (sv_if (et_not (et_val (kv_call0 xK rfl xmg rfl (c_is_saying.cl (by decide) rfl rfl rfl rfl rfl) px0 hr hgd (ea_cons (ev_var 1) (ea_cons (ev_ix (k_ix xK rfl (hu1 hr)) (s_ix (K := xK)) (eo_of (ev_var 2)) (eo_of (ev_var 3))) ea_nil))))) (svs_one sv_no) svs_nil)))
    (svs_cons (sv_for PassesOwn.never rfl (iv_rng1 (ea_cons (ev_callB (k_len xK rfl) (s_len (K := xK)) (eos_cons (eo_of (ev_var 2)) eos_nil) gs.b_len bt_len) ea_nil) gs.b_range) (gv_name sc_right_half.nd (i := 3) rfl (by first | exact .inl rfl | exact .inr rfl) rfl (fun σ x => tk_set (by decide) σ x)) (svs_cons (sv_asg (ev_ix (k_ix xK rfl (hu1 hr)) (s_ix (K := xK)) (eo_of (ev_var 2)) (eo_of (ev_var 3))) (kv_gtup xK rfl rfl (n := 2) (gvs_cons (tk_rel _) (gv_name sc_right_half.nd (i := 4) rfl (by first | exact .inl rfl | exact .inr rfl) rfl (fun σ x => tk_set (by decide) σ x)) (gvs_cons (tk_rel _) (gv_name sc_right_half.nd (i := 5) rfl (by first | exact .inl rfl | exact .inr rfl) rfl (fun σ x => tk_set (by decide) σ x)) (gvs_nil (tk_rel _))))))
    (svs_one (sv_if (et_w (ew_or (et_cmp (k_eq xK rfl (hu65 hr)) (s_eq (K := xK)) (eo_of (ev_var 4)) (eo_of (ev_var 5)) (by first | exact nomark _ | rfl)) (ew_or1 (et_cmp op_notN s_notN (eo_of (kv_call0 xK rfl xmg rfl (c_way_by.cl (by decide) rfl rfl rfl rfl rfl) px0 hr hgd (ea_cons (ev_slice (k_sl xK rfl) (s_sl (K := xK)) (eo_of (ev_var 2)) ept_none (ept_some (ev_var 3))) (ea_cons (ev_var 5) (ea_cons (ev_var 4) ea_nil))))) (eo_of ev_non) (by first | exact nomark _ | rfl))))) (svs_one sv_no) svs_nil))))
    (svs_one (sv_ret ev_bl))))))⟩

/-! _law_feed -/
abbrev s__law_feed : Stmt := topS 40
theorem sc__law_feed : FnScope ["_law_script"] ["_law_script"] (defScope s__law_feed) := ⟨rfl, rfl, rfl, by decide +kernel, rfl, by decide +kernel, by decide +kernel⟩
def m__law_feed : MS :=
  (mRet (mDisp (mPCons (mC (.str "cells")) (mOp2 addD (mV (mOpN (one listD) (mOCons (mV (mSl cutD (mV (mVar 0)) mNoPart (mPart (mC (.int 63))))) mONil))) (mV (mOp2 mulD (mV (mLst (mCons (mC (.int 0)) mNil))) (mV (mOpN (one intD) (mOCons (mV (mOp2 eqD (mV (mVar 0)) (mV (mLst mNil)))) mONil)))))) (mPCons (mC (.str "at")) (mC (.int 0)) (mPCons (mC (.str "left")) (mC (.int 0)) (mPCons (mC (.str "turn")) (mC (.int 0)) mPNil))))))
def g__law_feed : List D → R D := fun ds => (runF 1 0 m__law_feed ds).noEx
theorem fn__law_feed {f : Addr} {fd : FuncData} (G : L2.Fun K "_law_feed" "_law_feed" s__law_feed f fd) (gs : Gs mg) : FnG P w K mg base CX0 1 f fd ["_law_script"] (spV K mg 1 (leaves 1) 0 (.dic .leaf) g__law_feed) := by
  refine Fun.okG (k := 0) (n := 1) (psh := (leaves 1)) (lsh := []) (fx := 0) (rsh := (.dic .leaf)) (m := m__law_feed) G sc__law_feed rfl rfl rfl (by decide) (.inr (nnx_ret _)) fun X h1 h2 h3 h4 h5 h6 h7 h8 h9 henv hr hgd => ?_
  obtain ⟨xP, xw, xK, xmg, xb, xA, xN, xs, xH, xe, xo, xst, xex, xfn, xc, xpn, xx⟩ := X
  obtain ⟨xL, xf, xcd, henv⟩ := henv
  dsimp only at h1 h2 h3 h4 h5 h6 h7 h8 h9 henv hr hgd
  subst h1 h2 h3 h4 h5 h6 h7 h8 h9 henv
  exact ⟨_, (svs_one (sv_ret (ev_disp (eps_cons ev_str (ev_op (k_add xK rfl) (s_add (K := xK)) (eo_of (ev_frz (ev_callT (k_listOf xK rfl) (s_listOf (K := xK)) (eos_cons (eo_of (ev_slice (k_sl xK rfl) (s_sl (K := xK)) (eo_of (ev_var 0)) ept_none (ept_some ev_int))) eos_nil) gs.b_list bt_list))) (eo_of (ev_op (k_mul xK rfl) (s_mul (K := xK)) (eo_of (ev_frz (ev_lst (ea_cons ev_int ea_nil)))) (eo_of (ev_callT call_int1 s_int (eos_cons (eo_of (ev_cmp (k_eq xK rfl (hu65 hr)) (s_eq (K := xK)) (eo_of (ev_var 0)) (eo_of (ev_frz (ev_lst ea_nil))) (by first | exact nomark _ | rfl))) eos_nil) gs.b_int bt_int))))) (eps_cons ev_str ev_int (eps_cons ev_str ev_int (eps_cons ev_str ev_int eps_nil)))))))⟩

/-! _law_draw -/
abbrev s__law_draw : Stmt := topS 41
theorem sc__law_draw : FnScope ["_law_feed_here", "_law_many", "_law_cell", "_law_mixed", "_law_found"] ["_law_feed_here", "_law_many"] (defScope s__law_draw) := ⟨rfl, rfl, rfl, by decide +kernel, rfl, by decide +kernel, by decide +kernel⟩
def m__law_draw : MS :=
  (mSeq (mPut 0 (mC (.str "turn")) (mOp2 addD (mV (mOp2 ixD (mS 0) (mV (mC (.str "turn"))))) (mV (mC (.int 1)))))
  (mSeq (mIfS (mTest (mOp2 eqD (mV (mOp2 ixD (mS 0) (mV (mC (.str "left"))))) (mV (mC (.int 0))))) (mSeq (mSet 2 (mOp2 ixD (mV (mOp2 ixD (mS 0) (mV (mC (.str "cells"))))) (mV (mOp2 modD (mV (mOp2 ixD (mS 0) (mV (mC (.str "at"))))) (mV (mOpN (one lenD) (mOCons (mV (mOp2 ixD (mS 0) (mV (mC (.str "cells"))))) mONil)))))))
  (mSeq (mPut 0 (mC (.str "at")) (mOp2 addD (mV (mOp2 ixD (mS 0) (mV (mC (.str "at"))))) (mV (mC (.int 1)))))
  (mSeq (mIfS (mTest (mOp2 ltD (mV (mVar 2)) (mV (mOp2 powD (mV (mC (.int 10))) (mV (mC (.int 18))))))) (mSeq (mSet 3 (mOp2 modD (mV (mOp2 mulD (mV (mOp2 addD (mV (mOp2 modD (mV (mVar 2)) (mV (mC (.int 2147483629))))) (mV (mOp2 mulD (mV (mC (.int 1013))) (mV (mOp2 ixD (mS 0) (mV (mC (.str "turn"))))))))) (mV (mC (.int 48271))))) (mV (mC (.int 2147483647)))))
  (mSeq (mSet 3 (mOp2 modD (mV (mOp2 mulD (mV (mOp2 addD (mV (mOp2 fdivD (mV (mVar 3)) (mV (mC (.int 13))))) (mV (mOp2 mulD (mV (mC (.int 37))) (mV (mOp2 ixD (mS 0) (mV (mC (.str "turn"))))))))) (mV (mC (.int 69621))))) (mV (mC (.int 2147483587)))))
  (mRet (mOp2 modD (mV (mOp2 fdivD (mV (mVar 3)) (mV (mC (.int 7))))) (mV (mVar 1)))))) mNx)
  (mPut 0 (mC (.str "left")) (mVar 2))))) mNx)
  (mSeq (mSet 4 (mOp2 modD (mV (mOp2 ixD (mS 0) (mV (mC (.str "left"))))) (mV (mVar 1))))
  (mSeq (mPut 0 (mC (.str "left")) (mOp2 fdivD (mV (mOp2 ixD (mS 0) (mV (mC (.str "left"))))) (mV (mVar 1))))
  (mRet (mVar 4))))))
def g__law_draw : List D → R D := fun ds => (runF 5 1 m__law_draw ds).noEx
theorem fn__law_draw {f : Addr} {fd : FuncData} (G : L2.Fun K "_law_draw" "_law_draw" s__law_draw f fd) (gs : Gs mg) : FnG P w K mg base CX0 1 f fd ["_law_feed_here", "_law_many"] (spV K mg 2 ((.dic .leaf) :: leaves 1) 1 .leaf g__law_draw) := by
  refine Fun.okG (k := 0) (n := 2) (psh := ((.dic .leaf) :: leaves 1)) (lsh := [.leaf, .leaf, .leaf]) (fx := 1) (rsh := .leaf) (m := m__law_draw) G sc__law_draw rfl rfl rfl (by decide) (.inl rfl) fun X h1 h2 h3 h4 h5 h6 h7 h8 h9 henv hr hgd => ?_
  obtain ⟨xP, xw, xK, xmg, xb, xA, xN, xs, xH, xe, xo, xst, xex, xfn, xc, xpn, xx⟩ := X
  obtain ⟨xL, xf, xcd, henv⟩ := henv
  dsimp only at h1 h2 h3 h4 h5 h6 h7 h8 h9 henv hr hgd
  subst h1 h2 h3 h4 h5 h6 h7 h8 h9 henv
  exact ⟨_, (svs_cons (sv_dput 0 (hu1 hr) ev_str (ev_op (k_add xK rfl) (s_add (K := xK)) (eo_of (ev_ix (k_ix xK rfl (hu1 hr)) (s_ix (K := xK)) (eo_own 0) (eo_of ev_str))) (eo_of ev_int)))
    (svs_cons (sv_if (et_cmp (k_eq xK rfl (hu65 hr)) (s_eq (K := xK)) (eo_of (ev_ix (k_ix xK rfl (hu1 hr)) (s_ix (K := xK)) (eo_own 0) (eo_of ev_str))) (eo_of ev_int) (by first | exact nomark _ | rfl)) (svs_cons (sv_set (i := 2) rfl (by decide) sc__law_draw.nd rfl (by first | exact .inl rfl | exact .inr rfl) (ev_ix (k_ix xK rfl (hu1 hr)) (s_ix (K := xK)) (eo_of (ev_ix (k_ix xK rfl (hu1 hr)) (s_ix (K := xK)) (eo_own 0) (eo_of ev_str))) (eo_of (ev_op op_mod s_mod (eo_of (ev_ix (k_ix xK rfl (hu1 hr)) (s_ix (K := xK)) (eo_own 0) (eo_of ev_str))) (eo_of (ev_callB (k_len xK rfl) (s_len (K := xK)) (eos_cons (eo_of (ev_ix (k_ix xK rfl (hu1 hr)) (s_ix (K := xK)) (eo_own 0) (eo_of ev_str))) eos_nil) gs.b_len bt_len))))))
    (svs_cons (sv_dput 0 (hu1 hr) ev_str (ev_op (k_add xK rfl) (s_add (K := xK)) (eo_of (ev_ix (k_ix xK rfl (hu1 hr)) (s_ix (K := xK)) (eo_own 0) (eo_of ev_str))) (eo_of ev_int)))
    (svs_cons (sv_if (et_cmp op_lt s_b (eo_of (ev_var 2)) (eo_of (ev_op op_pow s_pow (eo_of ev_int) (eo_of ev_int))) (by first | exact nomark _ | rfl)) (svs_cons (sv_set (i := 3) rfl (by decide) sc__law_draw.nd rfl (by first | exact .inl rfl | exact .inr rfl) (ev_op op_mod s_mod (eo_of (ev_op (k_mul xK rfl) (s_mul (K := xK)) (eo_of (ev_op (k_add xK rfl) (s_add (K := xK)) (eo_of (ev_op op_mod s_mod (eo_of (ev_var 2)) (eo_of ev_int))) (eo_of (ev_op (k_mul xK rfl) (s_mul (K := xK)) (eo_of ev_int) (eo_of (ev_ix (k_ix xK rfl (hu1 hr)) (s_ix (K := xK)) (eo_own 0) (eo_of ev_str))))))) (eo_of ev_int))) (eo_of ev_int)))
    (svs_cons (sv_set (i := 3) rfl (by decide) sc__law_draw.nd rfl (by first | exact .inl rfl | exact .inr rfl) (ev_op op_mod s_mod (eo_of (ev_op (k_mul xK rfl) (s_mul (K := xK)) (eo_of (ev_op (k_add xK rfl) (s_add (K := xK)) (eo_of (ev_op op_fdivW s_fdiv (eo_of (ev_var 3)) (eo_of ev_int))) (eo_of (ev_op (k_mul xK rfl) (s_mul (K := xK)) (eo_of ev_int) (eo_of (ev_ix (k_ix xK rfl (hu1 hr)) (s_ix (K := xK)) (eo_own 0) (eo_of ev_str))))))) (eo_of ev_int))) (eo_of ev_int)))
    (svs_one (sv_ret (ev_op op_mod s_mod (eo_of (ev_op op_fdivW s_fdiv (eo_of (ev_var 3)) (eo_of ev_int))) (eo_of (ev_var 1))))))) svs_nil)
    (svs_one (sv_dput 0 (hu1 hr) ev_str (ev_var 2)))))) svs_nil)
    (svs_cons (sv_set (i := 4) rfl (by decide) sc__law_draw.nd rfl (by first | exact .inl rfl | exact .inr rfl) (ev_op op_mod s_mod (eo_of (ev_ix (k_ix xK rfl (hu1 hr)) (s_ix (K := xK)) (eo_own 0) (eo_of ev_str))) (eo_of (ev_var 1))))
    (svs_cons (sv_dput 0 (hu1 hr) ev_str (ev_op op_fdivW s_fdiv (eo_of (ev_ix (k_ix xK rfl (hu1 hr)) (s_ix (K := xK)) (eo_own 0) (eo_of ev_str))) (eo_of (ev_var 1))))
    (svs_one (sv_ret (ev_var 4)))))))⟩

/-! _law_names -/
abbrev s__law_names : Stmt := topS 42
theorem sc__law_names : FnScope ["_law_feed_here", "_law_many", "_law_letters", "_law_start", "_law_way", "_law_size", "_law_at", "_law_names_here", "_law_head", "_law_tail", "_law_turn", "_law_k"] ["_law_feed_here", "_law_many"] (defScope s__law_names) := ⟨rfl, rfl, rfl, by decide +kernel, rfl, by decide +kernel, by decide +kernel⟩
def m__law_names : MS :=
  (mSeq (mSet 2 (mOp2 mulD (mV (mC (.str "abcdefghijklmnopqrstuvwxyz"))) (mV (mC (.int 2)))))
  (mSeq (mSet 3 (mCall1 0 1 g__law_draw (mCons (mC (.int 26)) mNil)))
  (mSeq (mSet 4 (mCall1 0 1 g__law_draw (mCons (mC (.int 4)) mNil)))
  (mSeq (mSet 5 (mOp2 addD (mV (mC (.int 1))) (mV (mCall1 0 1 g__law_draw (mCons (mC (.int 8)) mNil)))))
  (mSeq (mSet 6 (mCall1 0 1 g__law_draw (mCons (mVar 5) mNil)))
  (mSeq (mSet 7 (mLst (mCons (mC (.str "names")) (mCons (mC (.str "ahead")) (mCons (mC (.str "name")) (mCons (mC (.str "a")) (mCons (mC (.str "ab")) (mCons (mC (.str "aheads")) (mCons (mC (.str "last")) (mCons (mC (.str "ask")) (mCons (mC (.str "row")) (mCons (mC (.str "end")) mNil))))))))))))
  (mSeq (mIfS (mTest (mOp2 eqD (mV (mVar 4)) (mV (mC (.int 0))))) (mSet 7 (mOp2 addD (mV (mLc (mR1 (mCons (mC (.int 8)) mNil)) (kName 11) mYes (mSl cutD (mV (mVar 2)) (mPart (mVar 3)) (mPart (mOp2 addD (mV (mOp2 addD (mV (mVar 3)) (mV (mC (.int 1))))) (mV (mVar 11))))) [11])) (mV (mLst (mCons (mOp2 ixD (mV (mVar 2)) (mV (mOp2 addD (mV (mVar 3)) (mV (mC (.int 9)))))) (mCons (mOp2 ixD (mV (mVar 2)) (mV (mOp2 addD (mV (mVar 3)) (mV (mC (.int 10)))))) mNil)))))) mNx)
  (mSeq (mIfS (mTest (mOp2 eqD (mV (mVar 4)) (mV (mC (.int 1))))) (mSeq (mSet 8 (mSl cutD (mV (mVar 2)) (mPart (mVar 3)) (mPart (mOp2 addD (mV (mVar 3)) (mV (mVar 6))))))
  (mSeq (mSet 9 (mSl cutD (mV (mVar 2)) (mPart (mOp2 addD (mV (mOp2 addD (mV (mVar 3)) (mV (mVar 6)))) (mV (mC (.int 1))))) (mPart (mOp2 addD (mV (mVar 3)) (mV (mVar 5))))))
  (mSet 7 (mLc (mR1 (mCons (mC (.int 10)) mNil)) (kName 11) mYes (mOp2 addD (mV (mOp2 addD (mV (mVar 8)) (mV (mOp2 ixD (mV (mVar 2)) (mV (mOp2 addD (mV (mVar 3)) (mV (mOp2 modD (mV (mOp2 mulD (mV (mC (.int 5))) (mV (mVar 11)))) (mV (mC (.int 26))))))))))) (mV (mVar 9))) [11])))) mNx)
  (mSeq (mIfS (mTest (mOp2 eqD (mV (mVar 4)) (mV (mC (.int 2))))) (mSet 7 (mLc (mR1 (mCons (mC (.int 10)) mNil)) (kName 11) mYes (mSl cutD (mV (mVar 2)) (mPart (mOp2 addD (mV (mVar 3)) (mV (mVar 11)))) (mPart (mOp2 addD (mV (mOp2 addD (mV (mOp2 addD (mV (mVar 3)) (mV (mVar 11)))) (mV (mC (.int 1))))) (mV (mOp2 modD (mV (mOp2 mulD (mV (mC (.int 3))) (mV (mVar 11)))) (mV (mC (.int 8)))))))) [11])) mNx)
  (mSeq (mSet 10 (mCall1 0 1 g__law_draw (mCons (mC (.int 10)) mNil)))
  (mSeq (mSet 7 (mOp2 addD (mV (mSl cutD (mV (mVar 7)) (mPart (mVar 10)) mNoPart)) (mV (mSl cutD (mV (mVar 7)) mNoPart (mPart (mVar 10))))))
  (mRet (mOp2 stepD (mV (mSl cutD (mV (mVar 7)) mNoPart (mPart (mVar 1)))) (mV (mOp2 ixD (mV (mLst (mCons (mC (.int 1)) (mCons (mOp1 negD (mV (mC (.int 1)))) mNil)))) (mV (mCall1 0 1 g__law_draw (mCons (mC (.int 2)) mNil))))))))))))))))))
def g__law_names : List D → R D := fun ds => (runF 12 1 m__law_names ds).noEx
theorem fn__law_names {f : Addr} {fd : FuncData} (G : L2.Fun K "_law_names" "_law_names" s__law_names f fd) (gs : Gs mg) (c__law_draw : Clp P w K mg base CX0 1 "_law_draw" 2 ((.dic .leaf) :: leaves 1) 1 .leaf g__law_draw) : FnG P w K mg base CX0 2 f fd ["_law_feed_here", "_law_many"] (spV K mg 2 ((.dic .leaf) :: leaves 1) 1 .leaf g__law_names) := by
  refine Fun.okG (k := 1) (n := 2) (psh := ((.dic .leaf) :: leaves 1)) (lsh := [.leaf, .leaf, .leaf, .leaf, .leaf, .leaf, .leaf, .leaf, .leaf, .leaf]) (fx := 1) (rsh := .leaf) (m := m__law_names) G sc__law_names rfl rfl rfl (by decide) (.inl rfl) fun X h1 h2 h3 h4 h5 h6 h7 h8 h9 henv hr hgd => ?_
  obtain ⟨xP, xw, xK, xmg, xb, xA, xN, xs, xH, xe, xo, xst, xex, xfn, xc, xpn, xx⟩ := X
  obtain ⟨xL, xf, xcd, henv⟩ := henv
  dsimp only at h1 h2 h3 h4 h5 h6 h7 h8 h9 henv hr hgd
  subst h1 h2 h3 h4 h5 h6 h7 h8 h9 henv
  exact ⟨_, (svs_cons (sv_set (i := 2) rfl (by decide) sc__law_names.nd rfl (by first | exact .inl rfl | exact .inr rfl) (ev_op (k_mul xK rfl) (s_mul (K := xK)) (eo_of ev_str) (eo_of ev_int)))
    (svs_cons (sv_set (i := 3) rfl (by decide) sc__law_names.nd rfl (by first | exact .inl rfl | exact .inr rfl) (kv_call1 xK rfl xmg rfl 0 (c__law_draw.cl (by decide) rfl rfl rfl rfl rfl) px0 hr hgd (ea_cons ev_int ea_nil)))
    (svs_cons (sv_set (i := 4) rfl (by decide) sc__law_names.nd rfl (by first | exact .inl rfl | exact .inr rfl) (kv_call1 xK rfl xmg rfl 0 (c__law_draw.cl (by decide) rfl rfl rfl rfl rfl) px0 hr hgd (ea_cons ev_int ea_nil)))
    (svs_cons (sv_set (i := 5) rfl (by decide) sc__law_names.nd rfl (by first | exact .inl rfl | exact .inr rfl) (ev_op (k_add xK rfl) (s_add (K := xK)) (eo_of ev_int) (eo_of (kv_call1 xK rfl xmg rfl 0 (c__law_draw.cl (by decide) rfl rfl rfl rfl rfl) px0 hr hgd (ea_cons ev_int ea_nil)))))
    (svs_cons (sv_set (i := 6) rfl (by decide) sc__law_names.nd rfl (by first | exact .inl rfl | exact .inr rfl) (kv_call1 xK rfl xmg rfl 0 (c__law_draw.cl (by decide) rfl rfl rfl rfl rfl) px0 hr hgd (ea_cons (ev_var 5) ea_nil)))
    (svs_cons (sv_set (i := 7) rfl (by decide) sc__law_names.nd rfl (by first | exact .inl rfl | exact .inr rfl) (ev_frz (ev_lst (ea_cons ev_str (ea_cons ev_str (ea_cons ev_str (ea_cons ev_str (ea_cons ev_str (ea_cons ev_str (ea_cons ev_str (ea_cons ev_str (ea_cons ev_str (ea_cons ev_str ea_nil)))))))))))))
    (svs_cons (sv_if (et_cmp (k_eq xK rfl (hu65 hr)) (s_eq (K := xK)) (eo_of (ev_var 4)) (eo_of ev_int) (by first | exact nomark _ | rfl)) (svs_one (sv_set (i := 7) rfl (by decide) sc__law_names.nd rfl (by first | exact .inl rfl | exact .inr rfl) (ev_op (k_add xK rfl) (s_add (K := xK)) (eo_of (ev_frz (ev_lc (own := [("_law_k", 11)]) rfl sc__law_names.nd (iv_rng1 (ea_cons ev_int ea_nil) gs.b_range) (blkOk_by (N := ["_law_feed_here", "_law_many", "_law_letters", "_law_start", "_law_way", "_law_size", "_law_at", "_law_names_here", "_law_head", "_law_tail", "_law_turn", "_law_k"]) (sc := defScope s__law_names) (own := [("_law_k", 11)]) (by decide +kernel)) (by decide) (hk1 rfl) (fun _ _ _ _ _ => (gv_name sc__law_names.nd (i := 11) rfl (by first | exact .inl rfl | exact .inr rfl) rfl (fun σ x => tw_set (by decide) σ x))) (fun _ _ _ _ _ => ets_nil) (fun _ _ _ _ _ => (ev_slice (k_sl xK rfl) (s_sl (K := xK)) (eo_of (ev_var 2)) (ept_some (ev_var 3)) (ept_some (ev_op (k_add xK rfl) (s_add (K := xK)) (eo_of (ev_op (k_add xK rfl) (s_add (K := xK)) (eo_of (ev_var 3)) (eo_of ev_int))) (eo_of (ev_var 11))))))))) (eo_of (ev_frz (ev_lst (ea_cons (ev_ix (k_ix xK rfl (hu1 hr)) (s_ix (K := xK)) (eo_of (ev_var 2)) (eo_of (ev_op (k_add xK rfl) (s_add (K := xK)) (eo_of (ev_var 3)) (eo_of ev_int)))) (ea_cons (ev_ix (k_ix xK rfl (hu1 hr)) (s_ix (K := xK)) (eo_of (ev_var 2)) (eo_of (ev_op (k_add xK rfl) (s_add (K := xK)) (eo_of (ev_var 3)) (eo_of ev_int)))) ea_nil)))))))) svs_nil)
    (svs_cons (sv_if (et_cmp (k_eq xK rfl (hu65 hr)) (s_eq (K := xK)) (eo_of (ev_var 4)) (eo_of ev_int) (by first | exact nomark _ | rfl)) (svs_cons (sv_set (i := 8) rfl (by decide) sc__law_names.nd rfl (by first | exact .inl rfl | exact .inr rfl) (ev_slice (k_sl xK rfl) (s_sl (K := xK)) (eo_of (ev_var 2)) (ept_some (ev_var 3)) (ept_some (ev_op (k_add xK rfl) (s_add (K := xK)) (eo_of (ev_var 3)) (eo_of (ev_var 6))))))
    (svs_cons (sv_set (i := 9) rfl (by decide) sc__law_names.nd rfl (by first | exact .inl rfl | exact .inr rfl) (ev_slice (k_sl xK rfl) (s_sl (K := xK)) (eo_of (ev_var 2)) (ept_some (ev_op (k_add xK rfl) (s_add (K := xK)) (eo_of (ev_op (k_add xK rfl) (s_add (K := xK)) (eo_of (ev_var 3)) (eo_of (ev_var 6)))) (eo_of ev_int))) (ept_some (ev_op (k_add xK rfl) (s_add (K := xK)) (eo_of (ev_var 3)) (eo_of (ev_var 5))))))
    (svs_one (sv_setLc (i := 7) (own := [("_law_k", 11)]) rfl sc__law_names.nd rfl rfl rfl (by decide) (by first | exact .inl rfl | exact .inr rfl) (sw_true rfl rfl rfl (by decide +kernel)) (iv_rng1 (ea_cons ev_int ea_nil) gs.b_range) (blkOk_by (N := ["_law_feed_here", "_law_many", "_law_letters", "_law_start", "_law_way", "_law_size", "_law_at", "_law_names_here", "_law_head", "_law_tail", "_law_turn", "_law_k"]) (sc := defScope s__law_names) (own := [("_law_k", 11)]) (by decide +kernel)) (by decide) (hk1 rfl) (fun _ _ _ _ _ => (gv_name sc__law_names.nd (i := 11) rfl (by first | exact .inl rfl | exact .inr rfl) rfl (fun σ x => tw_set (by decide) σ x))) (fun _ _ _ _ _ => ets_nil) (fun _ _ _ _ _ => (ev_op (k_add xK rfl) (s_add (K := xK)) (eo_of (ev_op (k_add xK rfl) (s_add (K := xK)) (eo_of (ev_var 8)) (eo_of (ev_ix (k_ix xK rfl (hu1 hr)) (s_ix (K := xK)) (eo_of (ev_var 2)) (eo_of (ev_op (k_add xK rfl) (s_add (K := xK)) (eo_of (ev_var 3)) (eo_of (ev_op op_mod s_mod (eo_of (ev_op (k_mul xK rfl) (s_mul (K := xK)) (eo_of ev_int) (eo_of (ev_var 11)))) (eo_of ev_int))))))))) (eo_of (ev_var 9)))))))) svs_nil)
    (svs_cons (sv_if (et_cmp (k_eq xK rfl (hu65 hr)) (s_eq (K := xK)) (eo_of (ev_var 4)) (eo_of ev_int) (by first | exact nomark _ | rfl)) (svs_one (sv_setLc (i := 7) (own := [("_law_k", 11)]) rfl sc__law_names.nd rfl rfl rfl (by decide) (by first | exact .inl rfl | exact .inr rfl) (sw_true rfl rfl rfl (by decide +kernel)) (iv_rng1 (ea_cons ev_int ea_nil) gs.b_range) (blkOk_by (N := ["_law_feed_here", "_law_many", "_law_letters", "_law_start", "_law_way", "_law_size", "_law_at", "_law_names_here", "_law_head", "_law_tail", "_law_turn", "_law_k"]) (sc := defScope s__law_names) (own := [("_law_k", 11)]) (by decide +kernel)) (by decide) (hk1 rfl) (fun _ _ _ _ _ => (gv_name sc__law_names.nd (i := 11) rfl (by first | exact .inl rfl | exact .inr rfl) rfl (fun σ x => tw_set (by decide) σ x))) (fun _ _ _ _ _ => ets_nil) (fun _ _ _ _ _ => (ev_slice (k_sl xK rfl) (s_sl (K := xK)) (eo_of (ev_var 2)) (ept_some (ev_op (k_add xK rfl) (s_add (K := xK)) (eo_of (ev_var 3)) (eo_of (ev_var 11)))) (ept_some (ev_op (k_add xK rfl) (s_add (K := xK)) (eo_of (ev_op (k_add xK rfl) (s_add (K := xK)) (eo_of (ev_op (k_add xK rfl) (s_add (K := xK)) (eo_of (ev_var 3)) (eo_of (ev_var 11)))) (eo_of ev_int))) (eo_of (ev_op op_mod s_mod (eo_of (ev_op (k_mul xK rfl) (s_mul (K := xK)) (eo_of ev_int) (eo_of (ev_var 11)))) (eo_of ev_int))))))))) svs_nil)
    (svs_cons (sv_set (i := 10) rfl (by decide) sc__law_names.nd rfl (by first | exact .inl rfl | exact .inr rfl) (kv_call1 xK rfl xmg rfl 0 (c__law_draw.cl (by decide) rfl rfl rfl rfl rfl) px0 hr hgd (ea_cons ev_int ea_nil)))
    (svs_cons (sv_set (i := 7) rfl (by decide) sc__law_names.nd rfl (by first | exact .inl rfl | exact .inr rfl) (ev_op (k_add xK rfl) (s_add (K := xK)) (eo_of (ev_slice (k_sl xK rfl) (s_sl (K := xK)) (eo_of (ev_var 7)) (ept_some (ev_var 10)) ept_none)) (eo_of (ev_slice (k_sl xK rfl) (s_sl (K := xK)) (eo_of (ev_var 7)) ept_none (ept_some (ev_var 10))))))
    (svs_one (sv_ret (ev_frz (ev_step xK rfl (eo_of (ev_slice (k_sl xK rfl) (s_sl (K := xK)) (eo_of (ev_var 7)) ept_none (ept_some (ev_var 1)))) (eo_of (ev_ix (k_ix xK rfl (hu1 hr)) (s_ix (K := xK)) (eo_of (ev_frz (ev_lst (ea_cons ev_int (ea_cons (ev_un un_neg s_neg (eo_of ev_int)) ea_nil))))) (eo_of (kv_call1 xK rfl xmg rfl 0 (c__law_draw.cl (by decide) rfl rfl rfl rfl rfl) px0 hr hgd (ea_cons ev_int ea_nil))))))))))))))))))))⟩

/-! _law_behind -/
abbrev s__law_behind : Stmt := topS 43
theorem sc__law_behind : FnScope ["_law_half", "_law_name", "_law_found", "_law_line", "_law_here", "_law_one", "_law_other"] ["_law_half", "_law_name"] (defScope s__law_behind) := ⟨rfl, rfl, rfl, by decide +kernel, rfl, by decide +kernel, by decide +kernel⟩
noncomputable def m__law_behind : MS :=
  (mSeq (mSet 2 (mLst mNil))
  (mSeq (mSet 3 (mLst (mCons (mVar 1) mNil)))
  (mSeq (mWhile (mTest (mOp2 neD (mS 3) (mV (mLst mNil)))) (mSeq (mSet 4 (mMtL 3 popD mNil))
  (mLoop (kTup' 2 (kCons (kName 5) (kCons (kName 6) kNil))) (mIfS (mAnd (mTest (mOp2 eqD (mV (mVar 5)) (mV (mVar 4)))) (mTest (mOp2 ninD (mV (mVar 6)) (mS 2)))) (mSeq (mDrop (mMtL 2 appendD (mCons (mVar 6) mNil)))
  (mDrop (mMtL 3 appendD (mCons (mVar 6) mNil)))) mNx) (mTs (mOp2 ixD (mV (mVar 0)) (mV (mC (.int 1))))))))
  (mRet (mMove 2)))))
noncomputable def g__law_behind : List D → R D := fun ds => (runF 7 0 m__law_behind ds).noEx
theorem fn__law_behind {f : Addr} {fd : FuncData} (G : L2.Fun K "_law_behind" "_law_behind" s__law_behind f fd) (gs : Gs mg) : FnG P w K mg base CX0 1 f fd ["_law_half", "_law_name"] (spV K mg 2 (leaves 2) 0 .leaf g__law_behind) := by
  refine Fun.okG (k := 0) (n := 2) (psh := (leaves 2)) (lsh := [(.lst .leaf), (.lst .leaf), .leaf, .leaf, .leaf]) (fx := 0) (rsh := .leaf) (m := m__law_behind) G sc__law_behind rfl rfl rfl (by decide) (.inl rfl) fun X h1 h2 h3 h4 h5 h6 h7 h8 h9 henv hr hgd => ?_
  obtain ⟨xP, xw, xK, xmg, xb, xA, xN, xs, xH, xe, xo, xst, xex, xfn, xc, xpn, xx⟩ := X
  obtain ⟨xL, xf, xcd, henv⟩ := henv
  dsimp only at h1 h2 h3 h4 h5 h6 h7 h8 h9 henv hr hgd
  subst h1 h2 h3 h4 h5 h6 h7 h8 h9 henv
  exact ⟨_, (svs_cons (sv_set (i := 2) rfl (by decide) sc__law_behind.nd rfl (by first | exact .inl rfl | exact .inr rfl) (ev_lst ea_nil))
    (svs_cons (sv_set (i := 3) rfl (by decide) sc__law_behind.nd rfl (by first | exact .inl rfl | exact .inr rfl) (ev_lst (ea_cons (ev_var 1) ea_nil)))
    (svs_cons (sv_while PassesOwn.never (et_cmp (k_ne xK rfl (hu65 hr)) (s_ne (K := xK)) (eo_own 3) (eo_of (ev_frz (ev_lst ea_nil))) (by first | exact nomark _ | rfl)) (svs_cons (sv_set (i := 4) rfl (by decide) sc__law_behind.nd rfl (by first | exact .inl rfl | exact .inr rfl) (ev_mtL0 3 PySem.F.slot_list_pop PySem.F.type_list_pop mt_popU m_pop))
    (svs_one (sv_for PassesOwn.never rfl (kv_tup xK rfl (ev_ix (k_ix xK rfl (hu1 hr)) (s_ix (K := xK)) (eo_of (ev_var 0)) (eo_of ev_int))) (kv_gtup xK rfl rfl (n := 2) (gvs_cons (tk_rel _) (gv_name sc__law_behind.nd (i := 5) rfl (by first | exact .inl rfl | exact .inr rfl) rfl (fun σ x => tk_set (by decide) σ x)) (gvs_cons (tk_rel _) (gv_name sc__law_behind.nd (i := 6) rfl (by first | exact .inl rfl | exact .inr rfl) rfl (fun σ x => tk_set (by decide) σ x)) (gvs_nil (tk_rel _))))) (svs_one (sv_if (et_w (ew_and (et_cmp (k_eq xK rfl (hu65 hr)) (s_eq (K := xK)) (eo_of (ev_var 5)) (eo_of (ev_var 4)) (by first | exact nomark _ | rfl)) (ew_and1 (et_cmp (k_nin xK rfl (hu64 hr)) (s_nin (K := xK)) (eo_of (ev_var 6)) (eo_own 2) (by first | exact nomark _ | rfl))))) (svs_cons (sv_expr (ev_mtL 2 PySem.F.slot_list_append PySem.F.type_list_append mt_append m_append (ea_cons (ev_var 6) ea_nil)))
    (svs_one (sv_expr (ev_mtL 3 PySem.F.slot_list_append PySem.F.type_list_append mt_append m_append (ea_cons (ev_var 6) ea_nil))))) svs_nil))))))
    (svs_one (sv_ret (ev_frz (ev_move 2)))))))⟩

/-! _law_refusal -/
abbrev s__law_refusal : Stmt := topS 44
theorem sc__law_refusal : FnScope ["_law_e", "_law_found", "_law_strange"] ["_law_e"] (defScope s__law_refusal) := ⟨rfl, rfl, rfl, by decide +kernel, rfl, by decide +kernel, by decide +kernel⟩
def m__law_refusal : MS :=
  (mSeq (mSet 1 (mLst mNil))
  (mSeq (mIfS (mTest (mIsE 0 [("Clash", true), ("NoName", false), ("NoSaying", false), ("TooMany", false), ("NoMore", false)])) (mDrop (mMtL 1 appendD (mCons (mTup (mCons (mC (.str "clash")) (mCons (mFld 0 "Clash" "way") mNil))) mNil))) mNx)
  (mSeq (mIfS (mTest (mIsE 0 [("Clash", false), ("NoName", true), ("NoSaying", false), ("TooMany", false), ("NoMore", false)])) (mDrop (mMtL 1 appendD (mCons (mTup (mCons (mC (.str "name")) (mCons (mFld 0 "NoName" "name") mNil))) mNil))) mNx)
  (mSeq (mIfS (mTest (mIsE 0 [("Clash", false), ("NoName", false), ("NoSaying", true), ("TooMany", false), ("NoMore", false)])) (mDrop (mMtL 1 appendD (mCons (mTup (mCons (mC (.str "saying")) (mCons (mFld 0 "NoSaying" "number") mNil))) mNil))) mNx)
  (mSeq (mIfS (mTest (mIsE 0 [("Clash", false), ("NoName", false), ("NoSaying", false), ("TooMany", true), ("NoMore", false)])) (mDrop (mMtL 1 appendD (mCons (mTup (mCons (mC (.str "many")) (mCons (mFld 0 "TooMany" "word") mNil))) mNil))) mNx)
  (mSeq (mIfS (mTest (mIsE 0 [("Clash", false), ("NoName", false), ("NoSaying", false), ("TooMany", false), ("NoMore", true)])) (mDrop (mMtL 1 appendD (mCons (mTup (mCons (mC (.str "more")) mNil)) mNil))) mNx)
  (mSeq (mSet 2 (mIsE 0 [("Clash", false), ("NoName", false), ("NoSaying", false), ("TooMany", false), ("NoMore", false)]))
  (mRet (mIf (mAnd (mTest (mOp2 eqD (mV (mOpN (one lenD) (mOCons (mS 1) mONil))) (mV (mC (.int 1))))) (mAnd (mNot (mTest (mVar 2))) (mTest (mIsE 0 [("Clash", true), ("NoName", true), ("NoSaying", true), ("TooMany", true), ("NoMore", true)])))) (mOp2 ixD (mS 1) (mV (mC (.int 0)))) (mTup (mCons (mC (.str "other")) mNil)))))))))))
def g__law_refusal : List D → R D := fun ds => (runF 3 0 m__law_refusal ds).noEx
theorem fn__law_refusal {f : Addr} {fd : FuncData} (G : L2.Fun K "_law_refusal" "_law_refusal" s__law_refusal f fd) (gs : Gs mg) {A_Clash A_HalfError A_NoBound A_NoCover A_NoHalf A_NoJoin A_NoMore A_NoName A_NoOrder A_NoPaper A_NoPlace A_NoPlan A_NoSaying A_NoText A_TooMany : Addr} (zs : Xs w K mg base A_Clash A_HalfError A_NoBound A_NoCover A_NoHalf A_NoJoin A_NoMore A_NoName A_NoOrder A_NoPaper A_NoPlace A_NoPlan A_NoSaying A_NoText A_TooMany) : FnE P w K mg base 1 f fd ["_law_e"] (fun a cls d => spV K mg 1 [.exc mg a cls d] 0 .leaf g__law_refusal) := by
  refine Fun.okE (k := 0) (lsh := [(.lst .leaf), .leaf]) (m := m__law_refusal) G sc__law_refusal rfl rfl fun X a oe cls d h1 h2 h3 h4 h5 h6 h7 h8 henv hr hgd hz hf => ?_
  obtain ⟨xP, xw, xK, xmg, xb, xA, xN, xs, xH, xe, xo, xst, xex, xfn, xc, xpn, xx⟩ := X
  obtain ⟨xL, xf, xcd, henv⟩ := henv
  dsimp only at h1 h2 h3 h4 h5 h6 h7 h8 henv hr hgd
  subst h1 h2 h3 h4 h5 h6 h7 h8 henv
  exact ⟨_, (svs_cons (sv_set (i := 1) rfl (by decide) sc__law_refusal.nd rfl (by first | exact .inl rfl | exact .inr rfl) (ev_lst ea_nil))
    (svs_cons (sv_if (et_val (ev_isX (vc := (.ref A_Clash)) (cv := (.ref A_Clash)) [("Clash", true), ("NoName", false), ("NoSaying", false), ("TooMany", false), ("NoMore", false)] hz hf (ist_cons zs.g_Clash zs.e_Clash zs.k_Clash_Clash (ist_cons zs.g_NoName zs.e_NoName zs.k_NoName_Clash (ist_cons zs.g_NoSaying zs.e_NoSaying zs.k_NoSaying_Clash (ist_cons zs.g_TooMany zs.e_TooMany zs.k_TooMany_Clash (ist_cons zs.g_NoMore zs.e_NoMore zs.k_NoMore_Clash ist_nil))))) (pv 0) (pe_glob rfl zs.g_Clash rfl) rel_ref gs.b_isinstance)) (svs_one (sv_expr (ev_mtL 1 PySem.F.slot_list_append PySem.F.type_list_append mt_append m_append (ea_cons (ev_tup (ea_cons ev_str (ea_cons (ev_fldX (C := A_Clash) (c := "Clash") hz hf zs.g_Clash zs.x_Clash zs.n_Clash_way (pv 0)) ea_nil))) ea_nil)))) svs_nil)
    (svs_cons (sv_if (et_val (ev_isX (vc := (.ref A_NoName)) (cv := (.ref A_NoName)) [("Clash", false), ("NoName", true), ("NoSaying", false), ("TooMany", false), ("NoMore", false)] hz hf (ist_cons zs.g_Clash zs.e_Clash zs.k_Clash_NoName (ist_cons zs.g_NoName zs.e_NoName zs.k_NoName_NoName (ist_cons zs.g_NoSaying zs.e_NoSaying zs.k_NoSaying_NoName (ist_cons zs.g_TooMany zs.e_TooMany zs.k_TooMany_NoName (ist_cons zs.g_NoMore zs.e_NoMore zs.k_NoMore_NoName ist_nil))))) (pv 0) (pe_glob rfl zs.g_NoName rfl) rel_ref gs.b_isinstance)) (svs_one (sv_expr (ev_mtL 1 PySem.F.slot_list_append PySem.F.type_list_append mt_append m_append (ea_cons (ev_tup (ea_cons ev_str (ea_cons (ev_fldX (C := A_NoName) (c := "NoName") hz hf zs.g_NoName zs.x_NoName zs.n_NoName_name (pv 0)) ea_nil))) ea_nil)))) svs_nil)
    (svs_cons (sv_if (et_val (ev_isX (vc := (.ref A_NoSaying)) (cv := (.ref A_NoSaying)) [("Clash", false), ("NoName", false), ("NoSaying", true), ("TooMany", false), ("NoMore", false)] hz hf (ist_cons zs.g_Clash zs.e_Clash zs.k_Clash_NoSaying (ist_cons zs.g_NoName zs.e_NoName zs.k_NoName_NoSaying (ist_cons zs.g_NoSaying zs.e_NoSaying zs.k_NoSaying_NoSaying (ist_cons zs.g_TooMany zs.e_TooMany zs.k_TooMany_NoSaying (ist_cons zs.g_NoMore zs.e_NoMore zs.k_NoMore_NoSaying ist_nil))))) (pv 0) (pe_glob rfl zs.g_NoSaying rfl) rel_ref gs.b_isinstance)) (svs_one (sv_expr (ev_mtL 1 PySem.F.slot_list_append PySem.F.type_list_append mt_append m_append (ea_cons (ev_tup (ea_cons ev_str (ea_cons (ev_fldX (C := A_NoSaying) (c := "NoSaying") hz hf zs.g_NoSaying zs.x_NoSaying zs.n_NoSaying_number (pv 0)) ea_nil))) ea_nil)))) svs_nil)
    (svs_cons (sv_if (et_val (ev_isX (vc := (.ref A_TooMany)) (cv := (.ref A_TooMany)) [("Clash", false), ("NoName", false), ("NoSaying", false), ("TooMany", true), ("NoMore", false)] hz hf (ist_cons zs.g_Clash zs.e_Clash zs.k_Clash_TooMany (ist_cons zs.g_NoName zs.e_NoName zs.k_NoName_TooMany (ist_cons zs.g_NoSaying zs.e_NoSaying zs.k_NoSaying_TooMany (ist_cons zs.g_TooMany zs.e_TooMany zs.k_TooMany_TooMany (ist_cons zs.g_NoMore zs.e_NoMore zs.k_NoMore_TooMany ist_nil))))) (pv 0) (pe_glob rfl zs.g_TooMany rfl) rel_ref gs.b_isinstance)) (svs_one (sv_expr (ev_mtL 1 PySem.F.slot_list_append PySem.F.type_list_append mt_append m_append (ea_cons (ev_tup (ea_cons ev_str (ea_cons (ev_fldX (C := A_TooMany) (c := "TooMany") hz hf zs.g_TooMany zs.x_TooMany zs.n_TooMany_word (pv 0)) ea_nil))) ea_nil)))) svs_nil)
    (svs_cons (sv_if (et_val (ev_isX (vc := (.ref A_NoMore)) (cv := (.ref A_NoMore)) [("Clash", false), ("NoName", false), ("NoSaying", false), ("TooMany", false), ("NoMore", true)] hz hf (ist_cons zs.g_Clash zs.e_Clash zs.k_Clash_NoMore (ist_cons zs.g_NoName zs.e_NoName zs.k_NoName_NoMore (ist_cons zs.g_NoSaying zs.e_NoSaying zs.k_NoSaying_NoMore (ist_cons zs.g_TooMany zs.e_TooMany zs.k_TooMany_NoMore (ist_cons zs.g_NoMore zs.e_NoMore zs.k_NoMore_NoMore ist_nil))))) (pv 0) (pe_glob rfl zs.g_NoMore rfl) rel_ref gs.b_isinstance)) (svs_one (sv_expr (ev_mtL 1 PySem.F.slot_list_append PySem.F.type_list_append mt_append m_append (ea_cons (ev_tup (ea_cons ev_str ea_nil)) ea_nil)))) svs_nil)
    (svs_cons (sv_set (i := 2) rfl (by decide) sc__law_refusal.nd rfl (by first | exact .inl rfl | exact .inr rfl) (ev_isXT (vs := [(.ref A_NoBound), (.ref A_NoCover), (.ref A_NoHalf), (.ref A_NoJoin), (.ref A_NoOrder), (.ref A_NoPaper), (.ref A_NoPlace), (.ref A_NoPlan), (.ref A_NoText)]) (its := [(.ref A_NoBound), (.ref A_NoCover), (.ref A_NoHalf), (.ref A_NoJoin), (.ref A_NoOrder), (.ref A_NoPaper), (.ref A_NoPlace), (.ref A_NoPlan), (.ref A_NoText)]) [("Clash", false), ("NoName", false), ("NoSaying", false), ("TooMany", false), ("NoMore", false)] hz hf (ist_cons zs.g_Clash zs.e_Clash (kany_f zs.k_Clash_NoBound (kany_f zs.k_Clash_NoCover (kany_f zs.k_Clash_NoHalf (kany_f zs.k_Clash_NoJoin (kany_f zs.k_Clash_NoOrder (kany_f zs.k_Clash_NoPaper (kany_f zs.k_Clash_NoPlace (kany_f zs.k_Clash_NoPlan (kany_f zs.k_Clash_NoText kany_nil))))))))) (ist_cons zs.g_NoName zs.e_NoName (kany_f zs.k_NoName_NoBound (kany_f zs.k_NoName_NoCover (kany_f zs.k_NoName_NoHalf (kany_f zs.k_NoName_NoJoin (kany_f zs.k_NoName_NoOrder (kany_f zs.k_NoName_NoPaper (kany_f zs.k_NoName_NoPlace (kany_f zs.k_NoName_NoPlan (kany_f zs.k_NoName_NoText kany_nil))))))))) (ist_cons zs.g_NoSaying zs.e_NoSaying (kany_f zs.k_NoSaying_NoBound (kany_f zs.k_NoSaying_NoCover (kany_f zs.k_NoSaying_NoHalf (kany_f zs.k_NoSaying_NoJoin (kany_f zs.k_NoSaying_NoOrder (kany_f zs.k_NoSaying_NoPaper (kany_f zs.k_NoSaying_NoPlace (kany_f zs.k_NoSaying_NoPlan (kany_f zs.k_NoSaying_NoText kany_nil))))))))) (ist_cons zs.g_TooMany zs.e_TooMany (kany_f zs.k_TooMany_NoBound (kany_f zs.k_TooMany_NoCover (kany_f zs.k_TooMany_NoHalf (kany_f zs.k_TooMany_NoJoin (kany_f zs.k_TooMany_NoOrder (kany_f zs.k_TooMany_NoPaper (kany_f zs.k_TooMany_NoPlace (kany_f zs.k_TooMany_NoPlan (kany_f zs.k_TooMany_NoText kany_nil))))))))) (ist_cons zs.g_NoMore zs.e_NoMore (kany_f zs.k_NoMore_NoBound (kany_f zs.k_NoMore_NoCover (kany_f zs.k_NoMore_NoHalf (kany_f zs.k_NoMore_NoJoin (kany_f zs.k_NoMore_NoOrder (kany_f zs.k_NoMore_NoPaper (kany_f zs.k_NoMore_NoPlace (kany_f zs.k_NoMore_NoPlan (kany_f zs.k_NoMore_NoText kany_nil))))))))) ist_nil))))) (pv 0) (pa_cons (pe_glob rfl zs.g_NoBound rfl) (pa_cons (pe_glob rfl zs.g_NoCover rfl) (pa_cons (pe_glob rfl zs.g_NoHalf rfl) (pa_cons (pe_glob rfl zs.g_NoJoin rfl) (pa_cons (pe_glob rfl zs.g_NoOrder rfl) (pa_cons (pe_glob rfl zs.g_NoPaper rfl) (pa_cons (pe_glob rfl zs.g_NoPlace rfl) (pa_cons (pe_glob rfl zs.g_NoPlan rfl) (pa_cons (pe_glob rfl zs.g_NoText rfl) pa_nil))))))))) (by simp) (rels_cons rel_ref (rels_cons rel_ref (rels_cons rel_ref (rels_cons rel_ref (rels_cons rel_ref (rels_cons rel_ref (rels_cons rel_ref (rels_cons rel_ref (rels_cons rel_ref rels_nil))))))))) gs.b_isinstance))
    (svs_one (sv_ret (ev_if (et_w (ew_and (et_cmp (k_eq xK rfl (have hu9 := hu65 hr; hu9)) (s_eq (K := xK)) (eo_of (ev_callB (k_len xK rfl) (s_len (K := xK)) (eos_cons (eo_own 1) eos_nil) gs.b_len bt_len)) (eo_of ev_int) (by first | exact nomark _ | rfl)) (ew_and (et_not (et_val (ev_var 2))) (ew_and1 (et_val (ev_isX (vc := (.ty "ValueError")) (cv := (.type "ValueError")) [("Clash", true), ("NoName", true), ("NoSaying", true), ("TooMany", true), ("NoMore", true)] hz hf (ist_cons zs.g_Clash zs.e_Clash zs.k_Clash_ValueError (ist_cons zs.g_NoName zs.e_NoName zs.k_NoName_ValueError (ist_cons zs.g_NoSaying zs.e_NoSaying zs.k_NoSaying_ValueError (ist_cons zs.g_TooMany zs.e_TooMany zs.k_TooMany_ValueError (ist_cons zs.g_NoMore zs.e_NoMore zs.k_NoMore_ValueError ist_nil))))) (pv 0) (pe_bltn rfl gs.b_ValueError bt_ValueError rfl) rel_ty gs.b_isinstance)))))) (ev_ix (k_ix xK rfl (have hu9 := hu1 hr; hu9)) (s_ix (K := xK)) (eo_own 1) (eo_of ev_int)) (ev_tup (ea_cons ev_str ea_nil))))))))))))⟩

/-! Keeper__ask_names -/
abbrev s_Keeper__ask_names : Stmt := clsStm (topS 38) 1
theorem sc_Keeper__ask_names : FnScope ["self", "name", "other", "one"] ["self", "name", "other"] (defScope s_Keeper__ask_names) := ⟨rfl, rfl, rfl, by decide +kernel, rfl, by decide +kernel, by decide +kernel⟩
def m_Keeper__ask_names : MS :=
  (mLoop (kName 3) (mIfS (mTest (mOp2 ninD (mV (mVar 3)) (mV (mFd 0 0)))) (mRaise "NoName" ["name"] (mCons (mVar 3) mNil)) mNx) (mTs (mTup (mCons (mVar 1) (mCons (mVar 2) mNil)))))
def gX_Keeper__ask_names : List D → R D := fun ds => runF 4 1 m_Keeper__ask_names ds
def g_Keeper__ask_names : List D → R D := fun ds => (gX_Keeper__ask_names ds).noEx
theorem fn_Keeper__ask_names {f : Addr} {fd : FuncData} (G : L2.Fun K "ask_names" "Keeper.ask_names" s_Keeper__ask_names f fd) (gs : Gs mg) {A_Clash A_HalfError A_NoBound A_NoCover A_NoHalf A_NoJoin A_NoMore A_NoName A_NoOrder A_NoPaper A_NoPlace A_NoPlan A_NoSaying A_NoText A_TooMany : Addr} (zs : Xs w K mg base A_Clash A_HalfError A_NoBound A_NoCover A_NoHalf A_NoJoin A_NoMore A_NoName A_NoOrder A_NoPaper A_NoPlace A_NoPlan A_NoSaying A_NoText A_TooMany) {A_Keeper fI_Keeper : Addr} (kc_Keeper : Kc_Keeper K mg A_Keeper fI_Keeper) : FnG P w K mg base (L2.CX P w) 3 f fd ["self", "name", "other"] (spV K mg 3 ((.ins A_Keeper sf_Keeper) :: leaves 2) 1 .leaf gX_Keeper__ask_names) := by
  refine Fun.okXGT (k := 2) (n := 3) (psh := ((.ins A_Keeper sf_Keeper) :: leaves 2)) (lsh := [.leaf]) (fx := 1) (rsh := .leaf) (m := m_Keeper__ask_names) G sc_Keeper__ask_names rfl rfl rfl (by decide) (.inl rfl) fun X W h1 h2 h3 h4 h5 h6 h7 h8 henv hr hgd hstk htk hps => ?_
  obtain ⟨xP, xw, xK, xmg, xb, xA, xN, xs, xH, xe, xo, xst, xex, xfn, xc, xpn, xx⟩ := X
  obtain ⟨xL, xf, xcd, henv⟩ := henv
  dsimp only at h1 h2 h3 h4 h5 h6 h7 h8 henv hr hgd hstk
  subst h1 h2 h3 h4 h5 h6 h7 h8 henv
  exact ⟨_, (svs_one (sv_for hps rfl (kv_tup xK rfl (ev_tup (ea_cons (ev_var 1) (ea_cons (ev_var 2) ea_nil)))) (gv_name sc_Keeper__ask_names.nd (i := 3) rfl (by first | exact .inl rfl | exact .inr rfl) rfl (fun σ x => tk_set (by decide) σ x)) (svs_one (sv_if (et_cmp (k_nin xK rfl (hu64 hr)) (s_nin (K := xK)) (eo_of (ev_var 3)) (eo_of (kv_fldO (sf := sf_Keeper) xK rfl 0 0 kc_Keeper.cl kc_Keeper.na_names_told)) (by first | exact nomark _ | rfl)) (svs_one (sv_raise zs.z_NoName rfl htk (hr.mono (by decide)) (by decide) (ea_cons (ev_var 3) ea_nil))) svs_nil))))⟩

/-! Keeper__numbers -/
abbrev s_Keeper__numbers : Stmt := clsStm (topS 38) 2
theorem sc_Keeper__numbers : FnScope ["self"] ["self"] (defScope s_Keeper__numbers) := ⟨rfl, rfl, rfl, by decide +kernel, rfl, by decide +kernel, by decide +kernel⟩
def m_Keeper__numbers : MS :=
  (mRet (mOp1 tupleD (mV (mOpN (one sortID) (mOCons (mV (mOpL keysLD (mFd 0 1))) mONil)))))
def g_Keeper__numbers : List D → R D := fun ds => (runF 1 1 m_Keeper__numbers ds).noEx
theorem fn_Keeper__numbers {f : Addr} {fd : FuncData} (G : L2.Fun K "numbers" "Keeper.numbers" s_Keeper__numbers f fd) (gs : Gs mg) {A_Keeper fI_Keeper : Addr} (kc_Keeper : Kc_Keeper K mg A_Keeper fI_Keeper) : FnG P w K mg base CX0 1 f fd ["self"] (spV K mg 1 ((.ins A_Keeper sf_Keeper) :: leaves 0) 1 .leaf g_Keeper__numbers) := by
  refine Fun.okG (k := 0) (n := 1) (psh := ((.ins A_Keeper sf_Keeper) :: leaves 0)) (lsh := []) (fx := 1) (rsh := .leaf) (m := m_Keeper__numbers) G sc_Keeper__numbers rfl rfl rfl (by decide) (.inl rfl) fun X h1 h2 h3 h4 h5 h6 h7 h8 h9 henv hr hgd => ?_
  obtain ⟨xP, xw, xK, xmg, xb, xA, xN, xs, xH, xe, xo, xst, xex, xfn, xc, xpn, xx⟩ := X
  obtain ⟨xL, xf, xcd, henv⟩ := henv
  dsimp only at h1 h2 h3 h4 h5 h6 h7 h8 h9 henv hr hgd
  subst h1 h2 h3 h4 h5 h6 h7 h8 h9 henv
  exact ⟨_, (svs_one (sv_ret (kv_tupleOf xK rfl (eo_of (ev_frz (ev_callB (k_sortI xK rfl) (s_sortI (K := xK)) (eos_cons (eo_of (ev_frz (ev_callTL (cr_keysL rfl) (s_keysL (K := xK)) (kl_fld (sf := sf_Keeper) xK rfl 0 1 kc_Keeper.cl kc_Keeper.na_kept (.inr (.inr rfl))) gs.b_list bt_list))) eos_nil) gs.b_sorted bt_sorted))) gs.b_tuple)))⟩

/-! Keeper__lead -/
abbrev s_Keeper__lead : Stmt := clsStm (topS 38) 3
theorem sc_Keeper__lead : FnScope ["self", "name", "other", "ways", "waiting", "here", "number", "one", "far"] ["self", "name", "other"] (defScope s_Keeper__lead) := ⟨rfl, rfl, rfl, by decide +kernel, rfl, by decide +kernel, by decide +kernel⟩
noncomputable def m_Keeper__lead : MS :=
  (mSeq (mDrop (mCall1 0 2 gX_Keeper__ask_names (mCons (mVar 1) (mCons (mVar 2) mNil))))
  (mSeq (mSet 3 (mDisp (mPCons (mVar 1) (mTup mNil) mPNil)))
  (mSeq (mSet 4 (mLst (mCons (mVar 1) mNil)))
  (mSeq (mWhile (mTest (mOp2 gtD (mV (mOpN (one lenD) (mOCons (mS 4) mONil))) (mV (mC (.int 0))))) (mSeq (mSet 5 (mMtL 4 popD (mCons (mC (.int 0)) mNil)))
  (mLoop (kName 6) (mSeq (mAsg (kTup' 2 (kCons (kName 7) (kCons (kName 8) kNil))) (mFix 0 1 (mVar 6)))
  (mIfS (mAnd (mTest (mOp2 eqD (mV (mVar 7)) (mV (mVar 5)))) (mTest (mOp2 ninD (mV (mVar 8)) (mS 3)))) (mSeq (mPut 3 (mVar 8) (mOp2 addD (mV (mOp2 ixD (mS 3) (mV (mVar 5)))) (mV (mTup (mCons (mVar 6) mNil)))))
  (mDrop (mMtL 4 appendD (mCons (mVar 8) mNil)))) mNx)) (mTs (mCall1 0 0 g_Keeper__numbers mNil)))))
  (mSeq (mIfS (mTest (mOp2 eqD (mV (mVar 1)) (mV (mVar 2)))) (mRet (mC .non)) mNx)
  (mRet (mGet (mS 3) (mVar 2) (mC .non))))))))
noncomputable def gX_Keeper__lead : List D → R D := fun ds => runF 9 1 m_Keeper__lead ds
noncomputable def g_Keeper__lead : List D → R D := fun ds => (gX_Keeper__lead ds).noEx
theorem fn_Keeper__lead {f : Addr} {fd : FuncData} (G : L2.Fun K "lead" "Keeper.lead" s_Keeper__lead f fd) (gs : Gs mg) {A_Keeper fI_Keeper : Addr} (kc_Keeper : Kc_Keeper K mg A_Keeper fI_Keeper) (c_Keeper__numbers : Mlp P w K mg base CX0 1 A_Keeper "numbers" 1 ((.ins A_Keeper sf_Keeper) :: leaves 0) 1 .leaf g_Keeper__numbers) (cX_Keeper__ask_names : Mlp P w K mg base (L2.CX P w) 3 A_Keeper "ask_names" 3 ((.ins A_Keeper sf_Keeper) :: leaves 2) 1 .leaf gX_Keeper__ask_names) : FnG P w K mg base (L2.CX P w) 4 f fd ["self", "name", "other"] (spV K mg 3 ((.ins A_Keeper sf_Keeper) :: leaves 2) 1 .leaf gX_Keeper__lead) := by
  refine Fun.okXGT (k := 3) (n := 3) (psh := ((.ins A_Keeper sf_Keeper) :: leaves 2)) (lsh := [(.dic .leaf), (.lst .leaf), .leaf, .leaf, .leaf, .leaf]) (fx := 1) (rsh := .leaf) (m := m_Keeper__lead) G sc_Keeper__lead rfl rfl rfl (by decide) (.inl rfl) fun X W h1 h2 h3 h4 h5 h6 h7 h8 henv hr hgd hstk htk hps => ?_
  obtain ⟨xP, xw, xK, xmg, xb, xA, xN, xs, xH, xe, xo, xst, xex, xfn, xc, xpn, xx⟩ := X
  obtain ⟨xL, xf, xcd, henv⟩ := henv
  dsimp only at h1 h2 h3 h4 h5 h6 h7 h8 henv hr hgd hstk
  subst h1 h2 h3 h4 h5 h6 h7 h8 henv
  exact ⟨_, (svs_cons (sv_expr (kv_meth xK rfl xmg rfl 0 kc_Keeper.cl (cX_Keeper__ask_names.ml (by decide) rfl rfl rfl rfl rfl) (fun σ => passAt htk σ) hr hgd (ea_cons (ev_var 1) (ea_cons (ev_var 2) ea_nil))))
    (svs_cons (sv_set (i := 3) rfl (by decide) sc_Keeper__lead.nd rfl (by first | exact .inl rfl | exact .inr rfl) (ev_disp (eps_cons (ev_var 1) (ev_tup ea_nil) eps_nil)))
    (svs_cons (sv_set (i := 4) rfl (by decide) sc_Keeper__lead.nd rfl (by first | exact .inl rfl | exact .inr rfl) (ev_lst (ea_cons (ev_var 1) ea_nil)))
    (svs_cons (sv_while hps (et_cmp op_gt s_b (eo_of (ev_callB (k_len xK rfl) (s_len (K := xK)) (eos_cons (eo_own 4) eos_nil) gs.b_len bt_len)) (eo_of ev_int) (by first | exact nomark _ | rfl)) (svs_cons (sv_set (i := 5) rfl (by decide) sc_Keeper__lead.nd rfl (by first | exact .inl rfl | exact .inr rfl) (ev_mtL 4 PySem.F.slot_list_pop PySem.F.type_list_pop mt_popU m_pop (ea_cons ev_int ea_nil)))
    (svs_one (sv_for hps rfl (kv_tup xK rfl (kv_meth0 xK rfl xmg rfl 0 kc_Keeper.cl (c_Keeper__numbers.ml (by decide) rfl rfl rfl rfl rfl) px0 hr hgd)) (gv_name sc_Keeper__lead.nd (i := 6) rfl (by first | exact .inl rfl | exact .inr rfl) rfl (fun σ x => tk_set (by decide) σ x)) (svs_cons (sv_asg (kv_fix (sf := sf_Keeper) xK rfl 0 1 (k_ix xK rfl (hu1 hr)) (s_ix (K := xK)) kc_Keeper.cl kc_Keeper.na_kept (ev_var 6) (.inr (.inr rfl))) (kv_gtup xK rfl rfl (n := 2) (gvs_cons (tk_rel _) (gv_name sc_Keeper__lead.nd (i := 7) rfl (by first | exact .inl rfl | exact .inr rfl) rfl (fun σ x => tk_set (by decide) σ x)) (gvs_cons (tk_rel _) (gv_name sc_Keeper__lead.nd (i := 8) rfl (by first | exact .inl rfl | exact .inr rfl) rfl (fun σ x => tk_set (by decide) σ x)) (gvs_nil (tk_rel _))))))
    (svs_one (sv_if (et_w (ew_and (et_cmp (k_eq xK rfl (hu65 hr)) (s_eq (K := xK)) (eo_of (ev_var 7)) (eo_of (ev_var 5)) (by first | exact nomark _ | rfl)) (ew_and1 (et_cmp (k_nin xK rfl (hu64 hr)) (s_nin (K := xK)) (eo_of (ev_var 8)) (eo_own 3) (by first | exact nomark _ | rfl))))) (svs_cons (sv_dput 3 (hu1 hr) (ev_var 8) (ev_op (k_add xK rfl) (s_add (K := xK)) (eo_of (ev_ix (k_ix xK rfl (hu1 hr)) (s_ix (K := xK)) (eo_own 3) (eo_of (ev_var 5)))) (eo_of (ev_tup (ea_cons (ev_var 6) ea_nil)))))
    (svs_one (sv_expr (ev_mtL 4 PySem.F.slot_list_append PySem.F.type_list_append mt_append m_append (ea_cons (ev_var 8) ea_nil))))) svs_nil)))))))
    (svs_cons (sv_if (et_cmp (k_eq xK rfl (hu65 hr)) (s_eq (K := xK)) (eo_of (ev_var 1)) (eo_of (ev_var 2)) (by first | exact nomark _ | rfl)) (svs_one (sv_ret ev_non)) svs_nil)
    (svs_one (sv_ret (ev_get (hu1 hr) (eo_own 3) (ev_var 2) ev_non))))))))⟩

/-! Keeper__lay -/
abbrev s_Keeper__lay : Stmt := clsStm (topS 38) 4
theorem sc_Keeper__lay : FnScope ["self", "deed", "is_said", "number", "pair"] ["self", "deed"] (defScope s_Keeper__lay) := ⟨rfl, rfl, rfl, by decide +kernel, rfl, by decide +kernel, by decide +kernel⟩
def m_Keeper__lay : MS :=
  (mSeq (mAsg (kTup' 3 (kCons (kName 2) (kCons (kName 3) (kCons (kName 4) kNil)))) (mVar 1))
  (mIfS (mTest (mVar 2)) (mSeq (mFput 0 1 (mVar 3) (mVar 4))
  (mFset 0 2 "next_number" (mOp2 addD (mV (mVar 3)) (mV (mC (.int 1)))))) (mDrop (mPopH 0 1 (mVar 3)))))
def g_Keeper__lay : List D → R D := fun ds => (runF 5 1 m_Keeper__lay ds).noEx
theorem fn_Keeper__lay {f : Addr} {fd : FuncData} (G : L2.Fun K "lay" "Keeper.lay" s_Keeper__lay f fd) (gs : Gs mg) {A_Keeper fI_Keeper : Addr} (kc_Keeper : Kc_Keeper K mg A_Keeper fI_Keeper) : FnG P w K mg base CX0 1 f fd ["self", "deed"] (spV K mg 2 ((.ins A_Keeper sf_Keeper) :: leaves 1) 1 .leaf g_Keeper__lay) := by
  refine Fun.okG (k := 0) (n := 2) (psh := ((.ins A_Keeper sf_Keeper) :: leaves 1)) (lsh := [.leaf, .leaf, .leaf]) (fx := 1) (rsh := .leaf) (m := m_Keeper__lay) G sc_Keeper__lay rfl rfl rfl (by decide) (.inl rfl) fun X h1 h2 h3 h4 h5 h6 h7 h8 h9 henv hr hgd => ?_
  obtain ⟨xP, xw, xK, xmg, xb, xA, xN, xs, xH, xe, xo, xst, xex, xfn, xc, xpn, xx⟩ := X
  obtain ⟨xL, xf, xcd, henv⟩ := henv
  dsimp only at h1 h2 h3 h4 h5 h6 h7 h8 h9 henv hr hgd
  subst h1 h2 h3 h4 h5 h6 h7 h8 h9 henv
  exact ⟨_, (svs_cons (sv_asg (ev_var 1) (kv_gtup xK rfl rfl (n := 3) (gvs_cons (tk_rel _) (gv_name sc_Keeper__lay.nd (i := 2) rfl (by first | exact .inl rfl | exact .inr rfl) rfl (fun σ x => tk_set (by decide) σ x)) (gvs_cons (tk_rel _) (gv_name sc_Keeper__lay.nd (i := 3) rfl (by first | exact .inl rfl | exact .inr rfl) rfl (fun σ x => tk_set (by decide) σ x)) (gvs_cons (tk_rel _) (gv_name sc_Keeper__lay.nd (i := 4) rfl (by first | exact .inl rfl | exact .inr rfl) rfl (fun σ x => tk_set (by decide) σ x)) (gvs_nil (tk_rel _)))))))
    (svs_one (sv_if (et_val (ev_var 2)) (svs_cons (kv_fput (sf := sf_Keeper) xK rfl 0 1 (hu1 hr) kc_Keeper.cl kc_Keeper.na_kept (ev_var 3) (ev_var 4))
    (svs_one (kv_fset (sf := sf_Keeper) xK rfl 0 2 kc_Keeper.cl kc_Keeper.na_next_number (ev_op (k_add xK rfl) (s_add (K := xK)) (eo_of (ev_var 3)) (eo_of ev_int))))) (svs_one (sv_expr (ef_popD (fr_ins xK rfl 0 1 kc_Keeper.cl kc_Keeper.na_kept) (ev_var 3) rfl rfl rfl (by decide)))))))⟩

/-! Keeper__do -/
abbrev s_Keeper__do : Stmt := clsStm (topS 38) 6
theorem sc_Keeper__do : FnScope ["self", "deed"] ["self", "deed"] (defScope s_Keeper__do) := ⟨rfl, rfl, rfl, by decide +kernel, rfl, by decide +kernel, by decide +kernel⟩
def m_Keeper__do : MS :=
  (mSeq (mDrop (mCall1 0 1 g_Keeper__lay (mCons (mVar 1) mNil)))
  (mSeq (mDrop (mMtH 0 3 appendD (mCons (mVar 1) mNil)))
  (mFset 0 4 "undone" (mLst mNil))))
def g_Keeper__do : List D → R D := fun ds => (runF 2 1 m_Keeper__do ds).noEx
theorem fn_Keeper__do {f : Addr} {fd : FuncData} (G : L2.Fun K "do" "Keeper.do" s_Keeper__do f fd) (gs : Gs mg) {A_Keeper fI_Keeper : Addr} (kc_Keeper : Kc_Keeper K mg A_Keeper fI_Keeper) (c_Keeper__lay : Mlp P w K mg base CX0 1 A_Keeper "lay" 2 ((.ins A_Keeper sf_Keeper) :: leaves 1) 1 .leaf g_Keeper__lay) : FnG P w K mg base CX0 2 f fd ["self", "deed"] (spV K mg 2 ((.ins A_Keeper sf_Keeper) :: leaves 1) 1 .leaf g_Keeper__do) := by
  refine Fun.okG (k := 1) (n := 2) (psh := ((.ins A_Keeper sf_Keeper) :: leaves 1)) (lsh := []) (fx := 1) (rsh := .leaf) (m := m_Keeper__do) G sc_Keeper__do rfl rfl rfl (by decide) (.inl rfl) fun X h1 h2 h3 h4 h5 h6 h7 h8 h9 henv hr hgd => ?_
  obtain ⟨xP, xw, xK, xmg, xb, xA, xN, xs, xH, xe, xo, xst, xex, xfn, xc, xpn, xx⟩ := X
  obtain ⟨xL, xf, xcd, henv⟩ := henv
  dsimp only at h1 h2 h3 h4 h5 h6 h7 h8 h9 henv hr hgd
  subst h1 h2 h3 h4 h5 h6 h7 h8 h9 henv
  exact ⟨_, (svs_cons (sv_expr (kv_meth xK rfl xmg rfl 0 kc_Keeper.cl (c_Keeper__lay.ml (by decide) rfl rfl rfl rfl rfl) px0 hr hgd (ea_cons (ev_var 1) ea_nil)))
    (svs_cons (sv_expr (ef_mtL (fr_ins xK rfl 0 3 kc_Keeper.cl kc_Keeper.na_deeds) PySem.F.slot_list_append PySem.F.type_list_append mt_append m_append (ea_cons (ev_var 1) ea_nil) rfl rfl rfl (by decide)))
    (svs_one (kv_fset (sf := sf_Keeper) xK rfl 0 4 kc_Keeper.cl kc_Keeper.na_undone (ev_lst ea_nil)))))⟩

/-! Keeper__say -/
abbrev s_Keeper__say : Stmt := clsStm (topS 38) 7
theorem sc_Keeper__say : FnScope ["self", "name", "other", "way", "number"] ["self", "name", "other"] (defScope s_Keeper__say) := ⟨rfl, rfl, rfl, by decide +kernel, rfl, by decide +kernel, by decide +kernel⟩
noncomputable def m_Keeper__say : MS :=
  (mSeq (mDrop (mCall1 0 2 gX_Keeper__ask_names (mCons (mVar 1) (mCons (mVar 2) mNil))))
  (mSeq (mSet 3 (mTup mNil))
  (mSeq (mIfS (mTest (mOp2 neD (mV (mVar 1)) (mV (mVar 2)))) (mSet 3 (mCall1 0 2 gX_Keeper__lead (mCons (mVar 2) (mCons (mVar 1) mNil)))) mNx)
  (mSeq (mIfS (mTest (mOp2 notND (mV (mVar 3)) (mV (mC .non)))) (mRaise "Clash" ["way"] (mCons (mVar 3) mNil)) mNx)
  (mSeq (mIfS (mTest (mOp2 eqD (mV (mOpL lenD (mFd 0 1))) (mV (mC (.int 60))))) (mRaise "TooMany" ["word"] (mCons (mC (.str "sayings")) mNil)) mNx)
  (mSeq (mSet 4 (mFd 0 2))
  (mSeq (mDrop (mCall1 0 1 g_Keeper__do (mCons (mTup (mCons (mC (.bl true)) (mCons (mVar 4) (mCons (mTup (mCons (mVar 1) (mCons (mVar 2) mNil))) mNil)))) mNil)))
  (mRet (mVar 4)))))))))
noncomputable def gX_Keeper__say : List D → R D := fun ds => runF 5 1 m_Keeper__say ds
noncomputable def g_Keeper__say : List D → R D := fun ds => (gX_Keeper__say ds).noEx
theorem fn_Keeper__say {f : Addr} {fd : FuncData} (G : L2.Fun K "say" "Keeper.say" s_Keeper__say f fd) (gs : Gs mg) {A_Clash A_HalfError A_NoBound A_NoCover A_NoHalf A_NoJoin A_NoMore A_NoName A_NoOrder A_NoPaper A_NoPlace A_NoPlan A_NoSaying A_NoText A_TooMany : Addr} (zs : Xs w K mg base A_Clash A_HalfError A_NoBound A_NoCover A_NoHalf A_NoJoin A_NoMore A_NoName A_NoOrder A_NoPaper A_NoPlace A_NoPlan A_NoSaying A_NoText A_TooMany) {A_Keeper fI_Keeper : Addr} (kc_Keeper : Kc_Keeper K mg A_Keeper fI_Keeper) (c_Keeper__do : Mlp P w K mg base CX0 2 A_Keeper "do" 2 ((.ins A_Keeper sf_Keeper) :: leaves 1) 1 .leaf g_Keeper__do) (cX_Keeper__ask_names : Mlp P w K mg base (L2.CX P w) 3 A_Keeper "ask_names" 3 ((.ins A_Keeper sf_Keeper) :: leaves 2) 1 .leaf gX_Keeper__ask_names) (cX_Keeper__lead : Mlp P w K mg base (L2.CX P w) 4 A_Keeper "lead" 3 ((.ins A_Keeper sf_Keeper) :: leaves 2) 1 .leaf gX_Keeper__lead) : FnG P w K mg base (L2.CX P w) 5 f fd ["self", "name", "other"] (spV K mg 3 ((.ins A_Keeper sf_Keeper) :: leaves 2) 1 .leaf gX_Keeper__say) := by
  refine Fun.okXGT (k := 4) (n := 3) (psh := ((.ins A_Keeper sf_Keeper) :: leaves 2)) (lsh := [.leaf, .leaf]) (fx := 1) (rsh := .leaf) (m := m_Keeper__say) G sc_Keeper__say rfl rfl rfl (by decide) (.inl rfl) fun X W h1 h2 h3 h4 h5 h6 h7 h8 henv hr hgd hstk htk hps => ?_
  obtain ⟨xP, xw, xK, xmg, xb, xA, xN, xs, xH, xe, xo, xst, xex, xfn, xc, xpn, xx⟩ := X
  obtain ⟨xL, xf, xcd, henv⟩ := henv
  dsimp only at h1 h2 h3 h4 h5 h6 h7 h8 henv hr hgd hstk
  subst h1 h2 h3 h4 h5 h6 h7 h8 henv
  obtain ⟨tk_MOST_SAYINGS_keeping, g_MOST_SAYINGS_keeping⟩ := gs.c_MOST_SAYINGS_keeping
  exact ⟨_, (svs_cons (sv_expr (kv_meth xK rfl xmg rfl 0 kc_Keeper.cl (cX_Keeper__ask_names.ml (by decide) rfl rfl rfl rfl rfl) (fun σ => passAt htk σ) hr hgd (ea_cons (ev_var 1) (ea_cons (ev_var 2) ea_nil))))
    (svs_cons (sv_set (i := 3) rfl (by decide) sc_Keeper__say.nd rfl (by first | exact .inl rfl | exact .inr rfl) (ev_tup ea_nil))
    (svs_cons (sv_if (et_cmp (k_ne xK rfl (hu65 hr)) (s_ne (K := xK)) (eo_of (ev_var 1)) (eo_of (ev_var 2)) (by first | exact nomark _ | rfl)) (svs_one (sv_set (i := 3) rfl (by decide) sc_Keeper__say.nd rfl (by first | exact .inl rfl | exact .inr rfl) (kv_meth xK rfl xmg rfl 0 kc_Keeper.cl (cX_Keeper__lead.ml (by decide) rfl rfl rfl rfl rfl) (fun σ => passAt htk σ) hr hgd (ea_cons (ev_var 2) (ea_cons (ev_var 1) ea_nil))))) svs_nil)
    (svs_cons (sv_if (et_cmp op_notN s_notN (eo_of (ev_var 3)) (eo_of ev_non) (by first | exact nomark _ | rfl)) (svs_one (sv_raise zs.z_Clash rfl htk (hr.mono (by decide)) (by decide) (ea_cons (ev_var 3) ea_nil))) svs_nil)
    (svs_cons (sv_if (et_cmp (k_eq xK rfl (hu65 hr)) (s_eq (K := xK)) (eo_of (ev_callBL (k_len xK rfl) (s_len (K := xK)) (kl_fld (sf := sf_Keeper) xK rfl 0 1 kc_Keeper.cl kc_Keeper.na_kept (.inr (.inr rfl))) gs.b_len bt_len)) (eo_of (ev_globI g_MOST_SAYINGS_keeping)) (by first | exact nomark _ | rfl)) (svs_one (sv_raise zs.z_TooMany rfl htk (hr.mono (by decide)) (by decide) (ea_cons ev_str ea_nil))) svs_nil)
    (svs_cons (sv_set (i := 4) rfl (by decide) sc_Keeper__say.nd rfl (by first | exact .inl rfl | exact .inr rfl) (kv_fldO (sf := sf_Keeper) xK rfl 0 2 kc_Keeper.cl kc_Keeper.na_next_number))
    (svs_cons (sv_expr (kv_meth xK rfl xmg rfl 0 kc_Keeper.cl (c_Keeper__do.ml (by decide) rfl rfl rfl rfl rfl) px0 hr hgd (ea_cons (ev_tup (ea_cons ev_bl (ea_cons (ev_var 4) (ea_cons (ev_tup (ea_cons (ev_var 1) (ea_cons (ev_var 2) ea_nil))) ea_nil)))) ea_nil)))
    (svs_one (sv_ret (ev_var 4))))))))))⟩

/-! Keeper__saying -/
abbrev s_Keeper__saying : Stmt := clsStm (topS 38) 8
theorem sc_Keeper__saying : FnScope ["self", "number"] ["self", "number"] (defScope s_Keeper__saying) := ⟨rfl, rfl, rfl, by decide +kernel, rfl, by decide +kernel, by decide +kernel⟩
def m_Keeper__saying : MS :=
  (mSeq (mIfS (mTest (mOp2L ninD (mV (mVar 1)) (mFd 0 1))) (mRaise "NoSaying" ["number"] (mCons (mVar 1) mNil)) mNx)
  (mRet (mFix 0 1 (mVar 1))))
def gX_Keeper__saying : List D → R D := fun ds => runF 2 1 m_Keeper__saying ds
def g_Keeper__saying : List D → R D := fun ds => (gX_Keeper__saying ds).noEx
theorem fn_Keeper__saying {f : Addr} {fd : FuncData} (G : L2.Fun K "saying" "Keeper.saying" s_Keeper__saying f fd) (gs : Gs mg) {A_Clash A_HalfError A_NoBound A_NoCover A_NoHalf A_NoJoin A_NoMore A_NoName A_NoOrder A_NoPaper A_NoPlace A_NoPlan A_NoSaying A_NoText A_TooMany : Addr} (zs : Xs w K mg base A_Clash A_HalfError A_NoBound A_NoCover A_NoHalf A_NoJoin A_NoMore A_NoName A_NoOrder A_NoPaper A_NoPlace A_NoPlan A_NoSaying A_NoText A_TooMany) {A_Keeper fI_Keeper : Addr} (kc_Keeper : Kc_Keeper K mg A_Keeper fI_Keeper) : FnG P w K mg base (L2.CX P w) 3 f fd ["self", "number"] (spV K mg 2 ((.ins A_Keeper sf_Keeper) :: leaves 1) 1 .leaf gX_Keeper__saying) := by
  refine Fun.okXGT (k := 2) (n := 2) (psh := ((.ins A_Keeper sf_Keeper) :: leaves 1)) (lsh := []) (fx := 1) (rsh := .leaf) (m := m_Keeper__saying) G sc_Keeper__saying rfl rfl rfl (by decide) (.inl rfl) fun X W h1 h2 h3 h4 h5 h6 h7 h8 henv hr hgd hstk htk hps => ?_
  obtain ⟨xP, xw, xK, xmg, xb, xA, xN, xs, xH, xe, xo, xst, xex, xfn, xc, xpn, xx⟩ := X
  obtain ⟨xL, xf, xcd, henv⟩ := henv
  dsimp only at h1 h2 h3 h4 h5 h6 h7 h8 henv hr hgd hstk
  subst h1 h2 h3 h4 h5 h6 h7 h8 henv
  exact ⟨_, (svs_cons (sv_if (et_cmpL (k_nin xK rfl (hu64 hr)) (s_nin (K := xK)) (eo_of (ev_var 1)) (kl_fld (sf := sf_Keeper) xK rfl 0 1 kc_Keeper.cl kc_Keeper.na_kept (.inr (.inr rfl))) (by first | exact nomark _ | rfl)) (svs_one (sv_raise zs.z_NoSaying rfl htk (hr.mono (by decide)) (by decide) (ea_cons (ev_var 1) ea_nil))) svs_nil)
    (svs_one (sv_ret (kv_fix (sf := sf_Keeper) xK rfl 0 1 (k_ix xK rfl (hu1 hr)) (s_ix (K := xK)) kc_Keeper.cl kc_Keeper.na_kept (ev_var 1) (.inr (.inr rfl))))))⟩

/-! Keeper__take -/
abbrev s_Keeper__take : Stmt := clsStm (topS 38) 9
theorem sc_Keeper__take : FnScope ["self", "number"] ["self", "number"] (defScope s_Keeper__take) := ⟨rfl, rfl, rfl, by decide +kernel, rfl, by decide +kernel, by decide +kernel⟩
def m_Keeper__take : MS :=
  (mDrop (mCall1 0 1 g_Keeper__do (mCons (mTup (mCons (mC (.bl false)) (mCons (mVar 1) (mCons (mCall1 0 1 gX_Keeper__saying (mCons (mVar 1) mNil)) mNil)))) mNil)))
def gX_Keeper__take : List D → R D := fun ds => runF 2 1 m_Keeper__take ds
def g_Keeper__take : List D → R D := fun ds => (gX_Keeper__take ds).noEx
theorem fn_Keeper__take {f : Addr} {fd : FuncData} (G : L2.Fun K "take" "Keeper.take" s_Keeper__take f fd) (gs : Gs mg) {A_Keeper fI_Keeper : Addr} (kc_Keeper : Kc_Keeper K mg A_Keeper fI_Keeper) (c_Keeper__do : Mlp P w K mg base CX0 2 A_Keeper "do" 2 ((.ins A_Keeper sf_Keeper) :: leaves 1) 1 .leaf g_Keeper__do) (cX_Keeper__saying : Mlp P w K mg base (L2.CX P w) 3 A_Keeper "saying" 2 ((.ins A_Keeper sf_Keeper) :: leaves 1) 1 .leaf gX_Keeper__saying) : FnG P w K mg base (L2.CX P w) 4 f fd ["self", "number"] (spV K mg 2 ((.ins A_Keeper sf_Keeper) :: leaves 1) 1 .leaf gX_Keeper__take) := by
  refine Fun.okXGT (k := 3) (n := 2) (psh := ((.ins A_Keeper sf_Keeper) :: leaves 1)) (lsh := []) (fx := 1) (rsh := .leaf) (m := m_Keeper__take) G sc_Keeper__take rfl rfl rfl (by decide) (.inl rfl) fun X W h1 h2 h3 h4 h5 h6 h7 h8 henv hr hgd hstk htk hps => ?_
  obtain ⟨xP, xw, xK, xmg, xb, xA, xN, xs, xH, xe, xo, xst, xex, xfn, xc, xpn, xx⟩ := X
  obtain ⟨xL, xf, xcd, henv⟩ := henv
  dsimp only at h1 h2 h3 h4 h5 h6 h7 h8 henv hr hgd hstk
  subst h1 h2 h3 h4 h5 h6 h7 h8 henv
  exact ⟨_, (svs_one (sv_expr (kv_meth xK rfl xmg rfl 0 kc_Keeper.cl (c_Keeper__do.ml (by decide) rfl rfl rfl rfl rfl) px0 hr hgd (ea_cons (ev_tup (ea_cons ev_bl (ea_cons (ev_var 1) (ea_cons (kv_meth xK rfl xmg rfl 0 kc_Keeper.cl (cX_Keeper__saying.ml (by decide) rfl rfl rfl rfl rfl) (fun σ => passAt htk σ) hr hgd (ea_cons (ev_var 1) ea_nil)) ea_nil)))) ea_nil))))⟩

/-! Keeper__lift -/
abbrev s_Keeper__lift : Stmt := clsStm (topS 38) 5
theorem sc_Keeper__lift : FnScope ["self", "deed", "is_said", "number", "pair"] ["self", "deed"] (defScope s_Keeper__lift) := ⟨rfl, rfl, rfl, by decide +kernel, rfl, by decide +kernel, by decide +kernel⟩
def m_Keeper__lift : MS :=
  (mSeq (mAsg (kTup' 3 (kCons (kName 2) (kCons (kName 3) (kCons (kName 4) kNil)))) (mVar 1))
  (mIfS (mTest (mVar 2)) (mSeq (mDrop (mPopH 0 1 (mVar 3)))
  (mFset 0 2 "next_number" (mVar 3))) (mFput 0 1 (mVar 3) (mVar 4))))
def g_Keeper__lift : List D → R D := fun ds => (runF 5 1 m_Keeper__lift ds).noEx
theorem fn_Keeper__lift {f : Addr} {fd : FuncData} (G : L2.Fun K "lift" "Keeper.lift" s_Keeper__lift f fd) (gs : Gs mg) {A_Keeper fI_Keeper : Addr} (kc_Keeper : Kc_Keeper K mg A_Keeper fI_Keeper) : FnG P w K mg base CX0 1 f fd ["self", "deed"] (spV K mg 2 ((.ins A_Keeper sf_Keeper) :: leaves 1) 1 .leaf g_Keeper__lift) := by
  refine Fun.okG (k := 0) (n := 2) (psh := ((.ins A_Keeper sf_Keeper) :: leaves 1)) (lsh := [.leaf, .leaf, .leaf]) (fx := 1) (rsh := .leaf) (m := m_Keeper__lift) G sc_Keeper__lift rfl rfl rfl (by decide) (.inl rfl) fun X h1 h2 h3 h4 h5 h6 h7 h8 h9 henv hr hgd => ?_
  obtain ⟨xP, xw, xK, xmg, xb, xA, xN, xs, xH, xe, xo, xst, xex, xfn, xc, xpn, xx⟩ := X
  obtain ⟨xL, xf, xcd, henv⟩ := henv
  dsimp only at h1 h2 h3 h4 h5 h6 h7 h8 h9 henv hr hgd
  subst h1 h2 h3 h4 h5 h6 h7 h8 h9 henv
  exact ⟨_, (svs_cons (sv_asg (ev_var 1) (kv_gtup xK rfl rfl (n := 3) (gvs_cons (tk_rel _) (gv_name sc_Keeper__lift.nd (i := 2) rfl (by first | exact .inl rfl | exact .inr rfl) rfl (fun σ x => tk_set (by decide) σ x)) (gvs_cons (tk_rel _) (gv_name sc_Keeper__lift.nd (i := 3) rfl (by first | exact .inl rfl | exact .inr rfl) rfl (fun σ x => tk_set (by decide) σ x)) (gvs_cons (tk_rel _) (gv_name sc_Keeper__lift.nd (i := 4) rfl (by first | exact .inl rfl | exact .inr rfl) rfl (fun σ x => tk_set (by decide) σ x)) (gvs_nil (tk_rel _)))))))
    (svs_one (sv_if (et_val (ev_var 2)) (svs_cons (sv_expr (ef_popD (fr_ins xK rfl 0 1 kc_Keeper.cl kc_Keeper.na_kept) (ev_var 3) rfl rfl rfl (by decide)))
    (svs_one (kv_fset (sf := sf_Keeper) xK rfl 0 2 kc_Keeper.cl kc_Keeper.na_next_number (ev_var 3)))) (svs_one (kv_fput (sf := sf_Keeper) xK rfl 0 1 (hu1 hr) kc_Keeper.cl kc_Keeper.na_kept (ev_var 3) (ev_var 4))))))⟩

/-! Keeper__undo -/
abbrev s_Keeper__undo : Stmt := clsStm (topS 38) 10
theorem sc_Keeper__undo : FnScope ["self", "deed"] ["self"] (defScope s_Keeper__undo) := ⟨rfl, rfl, rfl, by decide +kernel, rfl, by decide +kernel, by decide +kernel⟩
def m_Keeper__undo : MS :=
  (mSeq (mIfS (mTest (mOp2 eqD (mV (mOpL lenD (mFd 0 3))) (mV (mC (.int 0))))) (fun ρ => .ex ⟨"NoMore", []⟩ ρ) mNx)
  (mSeq (mSet 1 (mMtH 0 3 popD mNil))
  (mSeq (mDrop (mCall1 0 1 g_Keeper__lift (mCons (mVar 1) mNil)))
  (mDrop (mMtH 0 4 appendD (mCons (mVar 1) mNil))))))
def gX_Keeper__undo : List D → R D := fun ds => runF 2 1 m_Keeper__undo ds
def g_Keeper__undo : List D → R D := fun ds => (gX_Keeper__undo ds).noEx
theorem fn_Keeper__undo {f : Addr} {fd : FuncData} (G : L2.Fun K "undo" "Keeper.undo" s_Keeper__undo f fd) (gs : Gs mg) {A_Clash A_HalfError A_NoBound A_NoCover A_NoHalf A_NoJoin A_NoMore A_NoName A_NoOrder A_NoPaper A_NoPlace A_NoPlan A_NoSaying A_NoText A_TooMany : Addr} (zs : Xs w K mg base A_Clash A_HalfError A_NoBound A_NoCover A_NoHalf A_NoJoin A_NoMore A_NoName A_NoOrder A_NoPaper A_NoPlace A_NoPlan A_NoSaying A_NoText A_TooMany) {A_Keeper fI_Keeper : Addr} (kc_Keeper : Kc_Keeper K mg A_Keeper fI_Keeper) (c_Keeper__lift : Mlp P w K mg base CX0 1 A_Keeper "lift" 2 ((.ins A_Keeper sf_Keeper) :: leaves 1) 1 .leaf g_Keeper__lift) : FnG P w K mg base (L2.CX P w) 3 f fd ["self"] (spV K mg 1 ((.ins A_Keeper sf_Keeper) :: leaves 0) 1 .leaf gX_Keeper__undo) := by
  refine Fun.okXGT (k := 2) (n := 1) (psh := ((.ins A_Keeper sf_Keeper) :: leaves 0)) (lsh := [.leaf]) (fx := 1) (rsh := .leaf) (m := m_Keeper__undo) G sc_Keeper__undo rfl rfl rfl (by decide) (.inl rfl) fun X W h1 h2 h3 h4 h5 h6 h7 h8 henv hr hgd hstk htk hps => ?_
  obtain ⟨xP, xw, xK, xmg, xb, xA, xN, xs, xH, xe, xo, xst, xex, xfn, xc, xpn, xx⟩ := X
  obtain ⟨xL, xf, xcd, henv⟩ := henv
  dsimp only at h1 h2 h3 h4 h5 h6 h7 h8 henv hr hgd hstk
  subst h1 h2 h3 h4 h5 h6 h7 h8 henv
  exact ⟨_, (svs_cons (sv_if (et_cmp (k_eq xK rfl (hu65 hr)) (s_eq (K := xK)) (eo_of (ev_callBL (k_len xK rfl) (s_len (K := xK)) (kl_fld (sf := sf_Keeper) xK rfl 0 3 kc_Keeper.cl kc_Keeper.na_deeds (.inr (.inl rfl))) gs.b_len bt_len)) (eo_of ev_int) (by first | exact nomark _ | rfl)) (svs_one (sv_raiseN zs.z_NoMore rfl htk)) svs_nil)
    (svs_cons (sv_set (i := 1) rfl (by decide) sc_Keeper__undo.nd rfl (by first | exact .inl rfl | exact .inr rfl) (ef_mtL0 (fr_ins xK rfl 0 3 kc_Keeper.cl kc_Keeper.na_deeds) PySem.F.slot_list_pop PySem.F.type_list_pop mt_popU m_pop rfl rfl rfl (by decide)))
    (svs_cons (sv_expr (kv_meth xK rfl xmg rfl 0 kc_Keeper.cl (c_Keeper__lift.ml (by decide) rfl rfl rfl rfl rfl) px0 hr hgd (ea_cons (ev_var 1) ea_nil)))
    (svs_one (sv_expr (ef_mtL (fr_ins xK rfl 0 4 kc_Keeper.cl kc_Keeper.na_undone) PySem.F.slot_list_append PySem.F.type_list_append mt_append m_append (ea_cons (ev_var 1) ea_nil) rfl rfl rfl (by decide)))))))⟩

/-! Keeper__redo -/
abbrev s_Keeper__redo : Stmt := clsStm (topS 38) 11
theorem sc_Keeper__redo : FnScope ["self", "deed"] ["self"] (defScope s_Keeper__redo) := ⟨rfl, rfl, rfl, by decide +kernel, rfl, by decide +kernel, by decide +kernel⟩
def m_Keeper__redo : MS :=
  (mSeq (mIfS (mTest (mOp2 eqD (mV (mOpL lenD (mFd 0 4))) (mV (mC (.int 0))))) (fun ρ => .ex ⟨"NoMore", []⟩ ρ) mNx)
  (mSeq (mSet 1 (mMtH 0 4 popD mNil))
  (mSeq (mDrop (mCall1 0 1 g_Keeper__lay (mCons (mVar 1) mNil)))
  (mDrop (mMtH 0 3 appendD (mCons (mVar 1) mNil))))))
def gX_Keeper__redo : List D → R D := fun ds => runF 2 1 m_Keeper__redo ds
def g_Keeper__redo : List D → R D := fun ds => (gX_Keeper__redo ds).noEx
theorem fn_Keeper__redo {f : Addr} {fd : FuncData} (G : L2.Fun K "redo" "Keeper.redo" s_Keeper__redo f fd) (gs : Gs mg) {A_Clash A_HalfError A_NoBound A_NoCover A_NoHalf A_NoJoin A_NoMore A_NoName A_NoOrder A_NoPaper A_NoPlace A_NoPlan A_NoSaying A_NoText A_TooMany : Addr} (zs : Xs w K mg base A_Clash A_HalfError A_NoBound A_NoCover A_NoHalf A_NoJoin A_NoMore A_NoName A_NoOrder A_NoPaper A_NoPlace A_NoPlan A_NoSaying A_NoText A_TooMany) {A_Keeper fI_Keeper : Addr} (kc_Keeper : Kc_Keeper K mg A_Keeper fI_Keeper) (c_Keeper__lay : Mlp P w K mg base CX0 1 A_Keeper "lay" 2 ((.ins A_Keeper sf_Keeper) :: leaves 1) 1 .leaf g_Keeper__lay) : FnG P w K mg base (L2.CX P w) 3 f fd ["self"] (spV K mg 1 ((.ins A_Keeper sf_Keeper) :: leaves 0) 1 .leaf gX_Keeper__redo) := by
  refine Fun.okXGT (k := 2) (n := 1) (psh := ((.ins A_Keeper sf_Keeper) :: leaves 0)) (lsh := [.leaf]) (fx := 1) (rsh := .leaf) (m := m_Keeper__redo) G sc_Keeper__redo rfl rfl rfl (by decide) (.inl rfl) fun X W h1 h2 h3 h4 h5 h6 h7 h8 henv hr hgd hstk htk hps => ?_
  obtain ⟨xP, xw, xK, xmg, xb, xA, xN, xs, xH, xe, xo, xst, xex, xfn, xc, xpn, xx⟩ := X
  obtain ⟨xL, xf, xcd, henv⟩ := henv
  dsimp only at h1 h2 h3 h4 h5 h6 h7 h8 henv hr hgd hstk
  subst h1 h2 h3 h4 h5 h6 h7 h8 henv
  exact ⟨_, (svs_cons (sv_if (et_cmp (k_eq xK rfl (hu65 hr)) (s_eq (K := xK)) (eo_of (ev_callBL (k_len xK rfl) (s_len (K := xK)) (kl_fld (sf := sf_Keeper) xK rfl 0 4 kc_Keeper.cl kc_Keeper.na_undone (.inr (.inl rfl))) gs.b_len bt_len)) (eo_of ev_int) (by first | exact nomark _ | rfl)) (svs_one (sv_raiseN zs.z_NoMore rfl htk)) svs_nil)
    (svs_cons (sv_set (i := 1) rfl (by decide) sc_Keeper__redo.nd rfl (by first | exact .inl rfl | exact .inr rfl) (ef_mtL0 (fr_ins xK rfl 0 4 kc_Keeper.cl kc_Keeper.na_undone) PySem.F.slot_list_pop PySem.F.type_list_pop mt_popU m_pop rfl rfl rfl (by decide)))
    (svs_cons (sv_expr (kv_meth xK rfl xmg rfl 0 kc_Keeper.cl (c_Keeper__lay.ml (by decide) rfl rfl rfl rfl rfl) px0 hr hgd (ea_cons (ev_var 1) ea_nil)))
    (svs_one (sv_expr (ef_mtL (fr_ins xK rfl 0 3 kc_Keeper.cl kc_Keeper.na_deeds) PySem.F.slot_list_append PySem.F.type_list_append mt_append m_append (ea_cons (ev_var 1) ea_nil) rfl rfl rfl (by decide)))))))⟩

/-! Keeper__knows -/
abbrev s_Keeper__knows : Stmt := clsStm (topS 38) 15
theorem sc_Keeper__knows : FnScope ["self", "name", "other"] ["self", "name", "other"] (defScope s_Keeper__knows) := ⟨rfl, rfl, rfl, by decide +kernel, rfl, by decide +kernel, by decide +kernel⟩
noncomputable def m_Keeper__knows : MS :=
  (mSeq (mIfS (mTest (mOp2 notND (mV (mCall1 0 2 gX_Keeper__lead (mCons (mVar 1) (mCons (mVar 2) mNil)))) (mV (mC .non)))) (mRet (mC (.bl true))) mNx)
  (mSeq (mIfS (mOr (mTest (mOp2 eqD (mV (mVar 1)) (mV (mVar 2)))) (mTest (mOp2 notND (mV (mCall1 0 2 gX_Keeper__lead (mCons (mVar 2) (mCons (mVar 1) mNil)))) (mV (mC .non))))) (mRet (mC (.bl false))) mNx)
  (mRet (mC .non))))
noncomputable def gX_Keeper__knows : List D → R D := fun ds => runF 3 1 m_Keeper__knows ds
noncomputable def g_Keeper__knows : List D → R D := fun ds => (gX_Keeper__knows ds).noEx
theorem fn_Keeper__knows {f : Addr} {fd : FuncData} (G : L2.Fun K "knows" "Keeper.knows" s_Keeper__knows f fd) (gs : Gs mg) {A_Keeper fI_Keeper : Addr} (kc_Keeper : Kc_Keeper K mg A_Keeper fI_Keeper) (cX_Keeper__lead : Mlp P w K mg base (L2.CX P w) 4 A_Keeper "lead" 3 ((.ins A_Keeper sf_Keeper) :: leaves 2) 1 .leaf gX_Keeper__lead) : FnG P w K mg base (L2.CX P w) 5 f fd ["self", "name", "other"] (spV K mg 3 ((.ins A_Keeper sf_Keeper) :: leaves 2) 1 .leaf gX_Keeper__knows) := by
  refine Fun.okXGT (k := 4) (n := 3) (psh := ((.ins A_Keeper sf_Keeper) :: leaves 2)) (lsh := []) (fx := 1) (rsh := .leaf) (m := m_Keeper__knows) G sc_Keeper__knows rfl rfl rfl (by decide) (.inl rfl) fun X W h1 h2 h3 h4 h5 h6 h7 h8 henv hr hgd hstk htk hps => ?_
  obtain ⟨xP, xw, xK, xmg, xb, xA, xN, xs, xH, xe, xo, xst, xex, xfn, xc, xpn, xx⟩ := X
  obtain ⟨xL, xf, xcd, henv⟩ := henv
  dsimp only at h1 h2 h3 h4 h5 h6 h7 h8 henv hr hgd hstk
  subst h1 h2 h3 h4 h5 h6 h7 h8 henv
  exact ⟨_, (svs_cons (sv_if (et_cmp op_notN s_notN (eo_of (kv_meth xK rfl xmg rfl 0 kc_Keeper.cl (cX_Keeper__lead.ml (by decide) rfl rfl rfl rfl rfl) (fun σ => passAt htk σ) hr hgd (ea_cons (ev_var 1) (ea_cons (ev_var 2) ea_nil)))) (eo_of ev_non) (by first | exact nomark _ | rfl)) (svs_one (sv_ret ev_bl)) svs_nil)
    (svs_cons (sv_if (et_w (ew_or (et_cmp (k_eq xK rfl (hu65 hr)) (s_eq (K := xK)) (eo_of (ev_var 1)) (eo_of (ev_var 2)) (by first | exact nomark _ | rfl)) (ew_or1 (et_cmp op_notN s_notN (eo_of (kv_meth xK rfl xmg rfl 0 kc_Keeper.cl (cX_Keeper__lead.ml (by decide) rfl rfl rfl rfl rfl) (fun σ => passAt htk σ) hr hgd (ea_cons (ev_var 2) (ea_cons (ev_var 1) ea_nil)))) (eo_of ev_non) (by first | exact nomark _ | rfl))))) (svs_one (sv_ret ev_bl)) svs_nil)
    (svs_one (sv_ret ev_non))))⟩

/-! _law_told_by -/
abbrev s__law_told_by : Stmt := topS 45
theorem sc__law_told_by : FnScope ["_law_keeper", "_law_word", "_law_one", "_law_other", "_law_found", "_law_e"] ["_law_keeper", "_law_word", "_law_one", "_law_other"] (defScope s__law_told_by) := ⟨rfl, rfl, rfl, by decide +kernel, rfl, by decide +kernel, by decide +kernel⟩
noncomputable def m__law_told_by : MS :=
  (mSeq (mSet 4 (mC .non))
  (mSeq (mTry 5 ["Clash", "NoName", "NoSaying", "TooMany", "NoMore"] (mIfS (mTest (mOp2 eqD (mV (mVar 1)) (mV (mC (.str "say"))))) (mSet 4 (mCall1 0 2 gX_Keeper__say (mCons (mVar 2) (mCons (mVar 3) mNil)))) (mIfS (mTest (mOp2 eqD (mV (mVar 1)) (mV (mC (.str "take"))))) (mSet 4 (mCall1 0 1 gX_Keeper__take (mCons (mVar 2) mNil))) (mIfS (mTest (mOp2 eqD (mV (mVar 1)) (mV (mC (.str "undo"))))) (mSet 4 (mCall1 0 0 gX_Keeper__undo mNil)) (mIfS (mTest (mOp2 eqD (mV (mVar 1)) (mV (mC (.str "redo"))))) (mSet 4 (mCall1 0 0 gX_Keeper__redo mNil)) (mIfS (mTest (mOp2 eqD (mV (mVar 1)) (mV (mC (.str "saying"))))) (mSet 4 (mCall1 0 1 gX_Keeper__saying (mCons (mVar 2) mNil))) (mSet 4 (mIf (mTest (mOp2 eqD (mV (mVar 1)) (mV (mC (.str "lead"))))) (mCall1 0 2 gX_Keeper__lead (mCons (mVar 2) (mCons (mVar 3) mNil))) (mCall1 0 2 gX_Keeper__knows (mCons (mVar 2) (mCons (mVar 3) mNil)))))))))) (mSet 4 (mCallE 5 g__law_refusal)))
  (mRet (mVar 4))))
noncomputable def g__law_told_by : List D → R D := fun ds => (runF 6 1 m__law_told_by ds).noEx
theorem fn__law_told_by {f : Addr} {fd : FuncData} (G : L2.Fun K "_law_told_by" "_law_told_by" s__law_told_by f fd) (gs : Gs mg) {A_Clash A_HalfError A_NoBound A_NoCover A_NoHalf A_NoJoin A_NoMore A_NoName A_NoOrder A_NoPaper A_NoPlace A_NoPlan A_NoSaying A_NoText A_TooMany : Addr} (zs : Xs w K mg base A_Clash A_HalfError A_NoBound A_NoCover A_NoHalf A_NoJoin A_NoMore A_NoName A_NoOrder A_NoPaper A_NoPlace A_NoPlan A_NoSaying A_NoText A_TooMany) {A_Keeper fI_Keeper : Addr} (kc_Keeper : Kc_Keeper K mg A_Keeper fI_Keeper) (cX_Keeper__knows : Mlp P w K mg base (L2.CX P w) 5 A_Keeper "knows" 3 ((.ins A_Keeper sf_Keeper) :: leaves 2) 1 .leaf gX_Keeper__knows) (cX_Keeper__lead : Mlp P w K mg base (L2.CX P w) 4 A_Keeper "lead" 3 ((.ins A_Keeper sf_Keeper) :: leaves 2) 1 .leaf gX_Keeper__lead) (cX_Keeper__redo : Mlp P w K mg base (L2.CX P w) 3 A_Keeper "redo" 1 ((.ins A_Keeper sf_Keeper) :: leaves 0) 1 .leaf gX_Keeper__redo) (cX_Keeper__say : Mlp P w K mg base (L2.CX P w) 5 A_Keeper "say" 3 ((.ins A_Keeper sf_Keeper) :: leaves 2) 1 .leaf gX_Keeper__say) (cX_Keeper__saying : Mlp P w K mg base (L2.CX P w) 3 A_Keeper "saying" 2 ((.ins A_Keeper sf_Keeper) :: leaves 1) 1 .leaf gX_Keeper__saying) (cX_Keeper__take : Mlp P w K mg base (L2.CX P w) 4 A_Keeper "take" 2 ((.ins A_Keeper sf_Keeper) :: leaves 1) 1 .leaf gX_Keeper__take) (cX_Keeper__undo : Mlp P w K mg base (L2.CX P w) 3 A_Keeper "undo" 1 ((.ins A_Keeper sf_Keeper) :: leaves 0) 1 .leaf gX_Keeper__undo) (ce__law_refusal : Elp P w K mg base 1 "_law_refusal" g__law_refusal) : FnG P w K mg base CX0 6 f fd ["_law_keeper", "_law_word", "_law_one", "_law_other"] (spV K mg 4 ((.ins A_Keeper sf_Keeper) :: leaves 3) 1 .leaf g__law_told_by) := by
  refine Fun.okGT (k := 5) (n := 4) (psh := ((.ins A_Keeper sf_Keeper) :: leaves 3)) (lsh := [.leaf, .leaf]) (fx := 1) (rsh := .leaf) (m := m__law_told_by) G sc__law_told_by rfl rfl rfl (by decide) (.inl rfl) fun X h1 h2 h3 h4 h5 h6 h7 h8 h9 henv hr hgd hstk => ?_
  obtain ⟨xP, xw, xK, xmg, xb, xA, xN, xs, xH, xe, xo, xst, xex, xfn, xc, xpn, xx⟩ := X
  obtain ⟨xL, xf, xcd, henv⟩ := henv
  dsimp only at h1 h2 h3 h4 h5 h6 h7 h8 h9 henv hr hgd hstk
  subst h1 h2 h3 h4 h5 h6 h7 h8 h9 henv
  exact ⟨_, (svs_cons (sv_set (i := 4) rfl (by decide) sc__law_told_by.nd rfl (by first | exact .inl rfl | exact .inr rfl) ev_non)
    (svs_cons (sv_try 5 ["Clash", "NoName", "NoSaying", "TooMany", "NoMore"] hstk rfl sc__law_told_by.nd ⟨rfl, by decide, .inl zs.g_HalfError⟩ takes0 (cat_cons zs.g_Clash zs.h_Clash_HalfError (cat_cons zs.g_NoName zs.h_NoName_HalfError (cat_cons zs.g_NoSaying zs.h_NoSaying_HalfError (cat_cons zs.g_TooMany zs.h_TooMany_HalfError (cat_cons zs.g_NoMore zs.h_NoMore_HalfError cat_nil))))) (fun W1 pn1 xe1 tk1 ps1 => ⟨_, (svs_one (sv_if (et_cmp (k_eq xK rfl (hu65 hr)) (s_eq (K := xK)) (eo_of (ev_var 1)) (eo_of ev_str) (by first | exact nomark _ | rfl)) (svs_one (sv_set (i := 4) rfl (by decide) sc__law_told_by.nd rfl (by first | exact .inl rfl | exact .inr rfl) (kv_meth xK rfl xmg rfl 0 kc_Keeper.cl (cX_Keeper__say.ml (by decide) rfl rfl rfl rfl rfl) (fun σ => passAt tk1 σ) hr hgd (ea_cons (ev_var 2) (ea_cons (ev_var 3) ea_nil))))) (svs_one (sv_if (et_cmp (k_eq xK rfl (hu65 hr)) (s_eq (K := xK)) (eo_of (ev_var 1)) (eo_of ev_str) (by first | exact nomark _ | rfl)) (svs_one (sv_set (i := 4) rfl (by decide) sc__law_told_by.nd rfl (by first | exact .inl rfl | exact .inr rfl) (kv_meth xK rfl xmg rfl 0 kc_Keeper.cl (cX_Keeper__take.ml (by decide) rfl rfl rfl rfl rfl) (fun σ => passAt tk1 σ) hr hgd (ea_cons (ev_var 2) ea_nil)))) (svs_one (sv_if (et_cmp (k_eq xK rfl (hu65 hr)) (s_eq (K := xK)) (eo_of (ev_var 1)) (eo_of ev_str) (by first | exact nomark _ | rfl)) (svs_one (sv_set (i := 4) rfl (by decide) sc__law_told_by.nd rfl (by first | exact .inl rfl | exact .inr rfl) (kv_meth0 xK rfl xmg rfl 0 kc_Keeper.cl (cX_Keeper__undo.ml (by decide) rfl rfl rfl rfl rfl) (fun σ => passAt tk1 σ) hr hgd))) (svs_one (sv_if (et_cmp (k_eq xK rfl (hu65 hr)) (s_eq (K := xK)) (eo_of (ev_var 1)) (eo_of ev_str) (by first | exact nomark _ | rfl)) (svs_one (sv_set (i := 4) rfl (by decide) sc__law_told_by.nd rfl (by first | exact .inl rfl | exact .inr rfl) (kv_meth0 xK rfl xmg rfl 0 kc_Keeper.cl (cX_Keeper__redo.ml (by decide) rfl rfl rfl rfl rfl) (fun σ => passAt tk1 σ) hr hgd))) (svs_one (sv_if (et_cmp (k_eq xK rfl (hu65 hr)) (s_eq (K := xK)) (eo_of (ev_var 1)) (eo_of ev_str) (by first | exact nomark _ | rfl)) (svs_one (sv_set (i := 4) rfl (by decide) sc__law_told_by.nd rfl (by first | exact .inl rfl | exact .inr rfl) (kv_meth xK rfl xmg rfl 0 kc_Keeper.cl (cX_Keeper__saying.ml (by decide) rfl rfl rfl rfl rfl) (fun σ => passAt tk1 σ) hr hgd (ea_cons (ev_var 2) ea_nil)))) (svs_one (sv_set (i := 4) rfl (by decide) sc__law_told_by.nd rfl (by first | exact .inl rfl | exact .inr rfl) (ev_if (et_cmp (k_eq xK rfl (hu65 hr)) (s_eq (K := xK)) (eo_of (ev_var 1)) (eo_of ev_str) (by first | exact nomark _ | rfl)) (kv_meth xK rfl xmg rfl 0 kc_Keeper.cl (cX_Keeper__lead.ml (by decide) rfl rfl rfl rfl rfl) (fun σ => passAt tk1 σ) hr hgd (ea_cons (ev_var 2) (ea_cons (ev_var 3) ea_nil))) (kv_meth xK rfl xmg rfl 0 kc_Keeper.cl (cX_Keeper__knows.ml (by decide) rfl rfl rfl rfl rfl) (fun σ => passAt tk1 σ) hr hgd (ea_cons (ev_var 2) (ea_cons (ev_var 3) ea_nil))))))))))))))))⟩) (fun a1 oe1 cls1 d1 pn1 hz1 hf1 => ⟨_, (svs_one (sv_set (i := 4) rfl (by decide) sc__law_told_by.nd rfl (by first | exact .inl rfl | exact .inr rfl) (ev_callE hz1 hf1 (ce__law_refusal.el (by decide) rfl rfl rfl rfl rfl) hr hgd (pv 5))))⟩))
    (svs_one (sv_ret (ev_var 4)))))⟩

/-! _law_side -/
abbrev s__law_side : Stmt := topS 46
theorem sc__law_side : FnScope ["_law_names_here", "_law_keeper"] ["_law_names_here", "_law_keeper"] (defScope s__law_side) := ⟨rfl, rfl, rfl, by decide +kernel, rfl, by decide +kernel, by decide +kernel⟩
def m__law_side : MS :=
  (mRet (mRec (mFCons "names" (mVar 0) (mFCons "keeper" (mMove 1) (mFCons "kept" (mC (.dK [])) (mFCons "next" (mC (.int 0)) (mFCons "done" (mLst mNil) (mFCons "undone" (mLst mNil) mFNil))))))))
def g__law_side : List D → R D := fun ds => (runF 2 0 m__law_side ds).noEx
theorem fn__law_side {f : Addr} {fd : FuncData} (G : L2.Fun K "_law_side" "_law_side" s__law_side f fd) (gs : Gs mg) {A_Keeper fI_Keeper : Addr} (kc_Keeper : Kc_Keeper K mg A_Keeper fI_Keeper) : FnG P w K mg base CX0 1 f fd ["_law_names_here", "_law_keeper"] (spV K mg 2 [.leaf, (.ins A_Keeper sf_Keeper)] 0 (.rcd (rf_side A_Keeper)) g__law_side) := by
  refine Fun.okG (k := 0) (n := 2) (psh := [.leaf, (.ins A_Keeper sf_Keeper)]) (lsh := []) (fx := 0) (rsh := (.rcd (rf_side A_Keeper))) (m := m__law_side) G sc__law_side rfl rfl rfl (by decide) (.inr (nnx_ret _)) fun X h1 h2 h3 h4 h5 h6 h7 h8 h9 henv hr hgd => ?_
  obtain ⟨xP, xw, xK, xmg, xb, xA, xN, xs, xH, xe, xo, xst, xex, xfn, xc, xpn, xx⟩ := X
  obtain ⟨xL, xf, xcd, henv⟩ := henv
  dsimp only at h1 h2 h3 h4 h5 h6 h7 h8 h9 henv hr hgd
  subst h1 h2 h3 h4 h5 h6 h7 h8 h9 henv
  exact ⟨_, (svs_one (sv_ret (ev_rec (sf := (rf_side A_Keeper)) (efs_cons (x := "names") (ev_var 0) (efs_cons (x := "keeper") (ev_move 1) (efs_cons (x := "kept") ev_dnewK (efs_cons (x := "next") ev_int (efs_cons (x := "done") (ev_lst ea_nil) (efs_cons (x := "undone") (ev_lst ea_nil) efs_nil)))))) (nd_side _) (hs := (le_side _)))))⟩

/-! _law_half_of -/
abbrev s__law_half_of : Stmt := topS 47
theorem sc__law_half_of : FnScope ["_law_side_here", "_law_number"] ["_law_side_here"] (defScope s__law_half_of) := ⟨rfl, rfl, rfl, by decide +kernel, rfl, by decide +kernel, by decide +kernel⟩
def m__law_half_of : MS :=
  (mRet (mTup (mCons (mFd 0 0) (mCons (mOp1 tupleD (mV (mLc (mLs (mOpL sortKD (mFd 0 2))) (kName 1) mYes (mFix 0 2 (mVar 1)) [1]))) mNil))))
def g__law_half_of : List D → R D := fun ds => (runF 2 1 m__law_half_of ds).noEx
theorem fn__law_half_of {f : Addr} {fd : FuncData} (G : L2.Fun K "_law_half_of" "_law_half_of" s__law_half_of f fd) (gs : Gs mg) {A_Keeper fI_Keeper : Addr} (kc_Keeper : Kc_Keeper K mg A_Keeper fI_Keeper) : FnG P w K mg base CX0 1 f fd ["_law_side_here"] (spV K mg 1 ((.rcd (rf_side A_Keeper)) :: leaves 0) 1 .leaf g__law_half_of) := by
  refine Fun.okG (k := 0) (n := 1) (psh := ((.rcd (rf_side A_Keeper)) :: leaves 0)) (lsh := [.leaf]) (fx := 1) (rsh := .leaf) (m := m__law_half_of) G sc__law_half_of rfl rfl rfl (by decide) (.inl rfl) fun X h1 h2 h3 h4 h5 h6 h7 h8 h9 henv hr hgd => ?_
  obtain ⟨xP, xw, xK, xmg, xb, xA, xN, xs, xH, xe, xo, xst, xex, xfn, xc, xpn, xx⟩ := X
  obtain ⟨xL, xf, xcd, henv⟩ := henv
  dsimp only at h1 h2 h3 h4 h5 h6 h7 h8 h9 henv hr hgd
  subst h1 h2 h3 h4 h5 h6 h7 h8 h9 henv
  exact ⟨_, (svs_one (sv_ret (ev_tup (ea_cons (ef_leaf (fr_rcd (k := 0) (hu1 hr) 0 0 (.inl rfl)) rfl rfl rfl (nd_side _)) (ea_cons (kv_tupleOf xK rfl (eo_of (ev_frz (ev_lc (own := [("_law_number", 1)]) rfl sc__law_half_of.nd (kv_list xK rfl (ev_frz (ev_callBL (call_sortedDI rfl) (s_sortK (K := xK)) (el_fr (fr_rcd (k := 0) (hu1 hr) 0 2 (.inl rfl)) rfl rfl rfl (nd_side _) (.inr (.inr rfl))) gs.b_sorted bt_sorted))) (blkOk_by (N := ["_law_side_here", "_law_number"]) (sc := defScope s__law_half_of) (own := [("_law_number", 1)]) (by decide +kernel)) (by decide) (hk1 rfl) (fun _ _ _ _ _ => (gv_name sc__law_half_of.nd (i := 1) rfl (by first | exact .inl rfl | exact .inr rfl) rfl (fun σ x => tw_set (by decide) σ x))) (fun _ _ _ _ _ => ets_nil) (fun _ _ _ _ _ => (ef_ix (k_ix xK rfl (hu1 hr)) (s_ix (K := xK)) (fr_rcd (k := 0) (hu1 hr) 0 2 (.inl rfl)) (ev_var 1) rfl rfl rfl (nd_side _) (.inr (.inr rfl))))))) gs.b_tuple) ea_nil)))))⟩

theorem fnq__law_half_of {q : Addr} {f : Addr} {fd : FuncData} (G : L2.Fun K "_law_half_of" "_law_half_of" s__law_half_of f fd) (gs : Gs mg) {A_Keeper fI_Keeper : Addr} (kc_Keeper : Kc_Keeper K mg A_Keeper fI_Keeper) : FnG P w K mg base CX0 1 f fd ["_law_side_here"] (spV K mg 1 ((.rcq (rf_side A_Keeper) 1 q) :: leaves 0) 1 .leaf g__law_half_of) := by
  refine Fun.okG (k := 0) (n := 1) (psh := ((.rcq (rf_side A_Keeper) 1 q) :: leaves 0)) (lsh := [.leaf]) (fx := 1) (rsh := .leaf) (m := m__law_half_of) G sc__law_half_of rfl rfl rfl (by decide) (.inl rfl) fun X h1 h2 h3 h4 h5 h6 h7 h8 h9 henv hr hgd => ?_
  obtain ⟨xP, xw, xK, xmg, xb, xA, xN, xs, xH, xe, xo, xst, xex, xfn, xc, xpn, xx⟩ := X
  obtain ⟨xL, xf, xcd, henv⟩ := henv
  dsimp only at h1 h2 h3 h4 h5 h6 h7 h8 h9 henv hr hgd
  subst h1 h2 h3 h4 h5 h6 h7 h8 h9 henv
  exact ⟨_, (svs_one (sv_ret (ev_tup (ea_cons (ef_leaf (fr_rcd (k := 1) (hu1 hr) 0 0 (.inr ⟨_, rfl⟩)) rfl rfl rfl (nd_side _)) (ea_cons (kv_tupleOf xK rfl (eo_of (ev_frz (ev_lc (own := [("_law_number", 1)]) rfl sc__law_half_of.nd (kv_list xK rfl (ev_frz (ev_callBL (call_sortedDI rfl) (s_sortK (K := xK)) (el_fr (fr_rcd (k := 1) (hu1 hr) 0 2 (.inr ⟨_, rfl⟩)) rfl rfl rfl (nd_side _) (.inr (.inr rfl))) gs.b_sorted bt_sorted))) (blkOk_by (N := ["_law_side_here", "_law_number"]) (sc := defScope s__law_half_of) (own := [("_law_number", 1)]) (by decide +kernel)) (by decide) (hk1 rfl) (fun _ _ _ _ _ => (gv_name sc__law_half_of.nd (i := 1) rfl (by first | exact .inl rfl | exact .inr rfl) rfl (fun σ x => tw_set (by decide) σ x))) (fun _ _ _ _ _ => ets_nil) (fun _ _ _ _ _ => (ef_ix (k_ix xK rfl (hu1 hr)) (s_ix (K := xK)) (fr_rcd (k := 1) (hu1 hr) 0 2 (.inr ⟨_, rfl⟩)) (ev_var 1) rfl rfl rfl (nd_side _) (.inr (.inr rfl))))))) gs.b_tuple) ea_nil)))))⟩

/-! _law_is_way -/
abbrev s__law_is_way : Stmt := topS 48
theorem sc__law_is_way : FnScope ["_law_side_here", "_law_way", "_law_name", "_law_other", "_law_here", "_law_number"] ["_law_side_here", "_law_way", "_law_name", "_law_other"] (defScope s__law_is_way) := ⟨rfl, rfl, rfl, by decide +kernel, rfl, by decide +kernel, by decide +kernel⟩
def m__law_is_way : MS :=
  (mSeq (mIfS (mOr (mNot (mTest (mOpN (two isiD) (mOCons (mV (mVar 1)) (mOCons (mV (mC (.ty "tuple"))) mONil))))) (mTest (mOp2 eqTuD (mV (mVar 1)) (mV (mTup mNil))))) (mRet (mC (.bl false))) mNx)
  (mSeq (mSet 4 (mVar 2))
  (mSeq (mLoop (kName 5) (mSeq (mIfS (mOr (mNot (mTest (mOpN (two isiD) (mOCons (mV (mVar 5)) (mOCons (mV (mC (.ty "int"))) mONil))))) (mOr (mTest (mOpN (two isiD) (mOCons (mV (mVar 5)) (mOCons (mV (mC (.ty "bool"))) mONil)))) (mTest (mOp2L ninD (mV (mVar 5)) (mFd 0 2))))) (mRet (mC (.bl false))) mNx)
  (mSeq (mIfS (mTest (mOp2 neD (mV (mOp2 ixD (mV (mFix 0 2 (mVar 5))) (mV (mC (.int 0))))) (mV (mVar 4)))) (mRet (mC (.bl false))) mNx)
  (mSet 4 (mOp2 ixD (mV (mFix 0 2 (mVar 5))) (mV (mC (.int 1))))))) (mTs (mVar 1)))
  (mRet (mOp2 eqD (mV (mVar 4)) (mV (mVar 3)))))))
def g__law_is_way : List D → R D := fun ds => (runF 6 1 m__law_is_way ds).noEx
theorem fn__law_is_way {f : Addr} {fd : FuncData} (G : L2.Fun K "_law_is_way" "_law_is_way" s__law_is_way f fd) (gs : Gs mg) {A_Keeper fI_Keeper : Addr} (kc_Keeper : Kc_Keeper K mg A_Keeper fI_Keeper) : FnG P w K mg base CX0 1 f fd ["_law_side_here", "_law_way", "_law_name", "_law_other"] (spV K mg 4 ((.rcd (rf_side A_Keeper)) :: leaves 3) 1 .leaf g__law_is_way) := by
  refine Fun.okG (k := 0) (n := 4) (psh := ((.rcd (rf_side A_Keeper)) :: leaves 3)) (lsh := [.leaf, .leaf]) (fx := 1) (rsh := .leaf) (m := m__law_is_way) G sc__law_is_way rfl rfl rfl (by decide) (.inl rfl) fun X h1 h2 h3 h4 h5 h6 h7 h8 h9 henv hr hgd => ?_
  obtain ⟨xP, xw, xK, xmg, xb, xA, xN, xs, xH, xe, xo, xst, xex, xfn, xc, xpn, xx⟩ := X
  obtain ⟨xL, xf, xcd, henv⟩ := henv
  dsimp only at h1 h2 h3 h4 h5 h6 h7 h8 h9 henv hr hgd
  subst h1 h2 h3 h4 h5 h6 h7 h8 h9 henv
  exact ⟨_, (svs_cons (sv_if (et_w (ew_or (et_not (et_val (ev_callB (k_isi xK rfl) (s_isi (K := xK)) (eos_cons (eo_of (ev_var 1)) (eos_cons (eo_of (ev_ty gs.b_tuple bt_tuple)) eos_nil)) gs.b_isinstance bt_isinstance))) (ew_or1 (et_cmp (k_eqTu xK rfl (Nat.lt_of_succ_lt (hu1 hr))) (s_eqTu (K := xK)) (eo_of (ev_var 1)) (eo_of (ev_tup ea_nil)) (by first | exact nomark _ | rfl))))) (svs_one (sv_ret ev_bl)) svs_nil)
    (svs_cons (sv_set (i := 4) rfl (by decide) sc__law_is_way.nd rfl (by first | exact .inl rfl | exact .inr rfl) (ev_var 2))
    (svs_cons (sv_for PassesOwn.never rfl (kv_tup xK rfl (ev_var 1)) (gv_name sc__law_is_way.nd (i := 5) rfl (by first | exact .inl rfl | exact .inr rfl) rfl (fun σ x => tk_set (by decide) σ x)) (svs_cons (sv_if (et_w (ew_or (et_not (et_val (ev_callB (k_isi xK rfl) (s_isi (K := xK)) (eos_cons (eo_of (ev_var 5)) (eos_cons (eo_of (ev_ty gs.b_int bt_int)) eos_nil)) gs.b_isinstance bt_isinstance))) (ew_or (et_val (ev_callB (k_isi xK rfl) (s_isi (K := xK)) (eos_cons (eo_of (ev_var 5)) (eos_cons (eo_of (ev_ty gs.b_bool bt_bool)) eos_nil)) gs.b_isinstance bt_isinstance)) (ew_or1 (et_cmpL (k_nin xK rfl (hu64 hr)) (s_nin (K := xK)) (eo_of (ev_var 5)) (el_fr (fr_rcd (k := 0) (hu1 hr) 0 2 (.inl rfl)) rfl rfl rfl (nd_side _) (.inr (.inr rfl))) (by first | exact nomark _ | rfl)))))) (svs_one (sv_ret ev_bl)) svs_nil)
    (svs_cons (sv_if (et_cmp (k_ne xK rfl (hu65 hr)) (s_ne (K := xK)) (eo_of (ev_ix (k_ix xK rfl (hu1 hr)) (s_ix (K := xK)) (eo_of (ef_ix (k_ix xK rfl (hu1 hr)) (s_ix (K := xK)) (fr_rcd (k := 0) (hu1 hr) 0 2 (.inl rfl)) (ev_var 5) rfl rfl rfl (nd_side _) (.inr (.inr rfl)))) (eo_of ev_int))) (eo_of (ev_var 4)) (by first | exact nomark _ | rfl)) (svs_one (sv_ret ev_bl)) svs_nil)
    (svs_one (sv_set (i := 4) rfl (by decide) sc__law_is_way.nd rfl (by first | exact .inl rfl | exact .inr rfl) (ev_ix (k_ix xK rfl (hu1 hr)) (s_ix (K := xK)) (eo_of (ef_ix (k_ix xK rfl (hu1 hr)) (s_ix (K := xK)) (fr_rcd (k := 0) (hu1 hr) 0 2 (.inl rfl)) (ev_var 5) rfl rfl rfl (nd_side _) (.inr (.inr rfl)))) (eo_of ev_int)))))))
    (svs_one (sv_ret (ev_cmp (k_eq xK rfl (hu65 hr)) (s_eq (K := xK)) (eo_of (ev_var 4)) (eo_of (ev_var 3)) (by first | exact nomark _ | rfl)))))))⟩

/-! _law_say -/
abbrev s__law_say : Stmt := topS 49
theorem sc__law_say : FnScope ["_law_side_here", "_law_name", "_law_other", "_law_told", "_law_one", "_law_number"] ["_law_side_here", "_law_name", "_law_other"] (defScope s__law_say) := ⟨rfl, rfl, rfl, by decide +kernel, rfl, by decide +kernel, by decide +kernel⟩
noncomputable def m__law_say : MS :=
  (mSeq (mSet 3 (mCallF gd0 0 1 3 g__law_told_by (mCons (mC (.str "say")) (mCons (mVar 1) (mCons (mVar 2) mNil)))))
  (mSeq (mLoop (kName 4) (mIfS (mTest (mOp2 ninD (mV (mVar 4)) (mV (mFd 0 0)))) (mRet (mOp2 eqD (mV (mVar 3)) (mV (mTup (mCons (mC (.str "name")) (mCons (mVar 4) mNil)))))) mNx) (mTs (mTup (mCons (mVar 1) (mCons (mVar 2) mNil)))))
  (mSeq (mIfS (mTest (mOp2 eqD (mV (mVar 1)) (mV (mVar 2)))) (mRet (mOp2 eqD (mV (mVar 3)) (mV (mTup (mCons (mC (.str "clash")) (mCons (mTup mNil) mNil)))))) mNx)
  (mSeq (mIfS (mTest (mOp2 inD (mV (mVar 1)) (mV (mCall0 2 g__law_behind (mCons (mCall1 0 0 g__law_half_of mNil) (mCons (mVar 2) mNil)))))) (mRet (mAndV (mOpN (two isiD) (mOCons (mV (mVar 3)) (mOCons (mV (mC (.ty "tuple"))) mONil))) (mAndV (mOp2 eqD (mV (mOp2 ixD (mV (mVar 3)) (mV (mC (.int 0))))) (mV (mC (.str "clash")))) (mCall1 0 3 g__law_is_way (mCons (mOp2 ixD (mV (mVar 3)) (mV (mC (.int 1)))) (mCons (mVar 2) (mCons (mVar 1) mNil))))))) mNx)
  (mSeq (mIfS (mTest (mOp2 eqD (mV (mOpL lenD (mFd 0 2))) (mV (mC (.int 60))))) (mRet (mOp2 eqD (mV (mVar 3)) (mV (mTup (mCons (mC (.str "many")) (mCons (mC (.str "sayings")) mNil)))))) mNx)
  (mSeq (mSet 5 (mFd 0 3))
  (mSeq (mPutH 0 2 (mVar 5) (mTup (mCons (mVar 1) (mCons (mVar 2) mNil))))
  (mSeq (mRset 0 3 "next" (mOp2 addD (mV (mVar 5)) (mV (mC (.int 1)))))
  (mSeq (mDrop (mMtH 0 4 appendD (mCons (mTup (mCons (mC (.bl true)) (mCons (mVar 5) (mCons (mTup (mCons (mVar 1) (mCons (mVar 2) mNil))) mNil)))) mNil)))
  (mSeq (mRset 0 5 "undone" (mLst mNil))
  (mRet (mOp2 eqD (mV (mOpN (one reprD) (mOCons (mV (mVar 3)) mONil))) (mV (mOpN (one strID) (mOCons (mV (mVar 5)) mONil)))))))))))))))
noncomputable def g__law_say : List D → R D := fun ds => (runF 6 1 m__law_say ds).noEx
theorem fn__law_say {f : Addr} {fd : FuncData} (G : L2.Fun K "_law_say" "_law_say" s__law_say f fd) (gs : Gs mg) {A_Keeper fI_Keeper : Addr} (kc_Keeper : Kc_Keeper K mg A_Keeper fI_Keeper) (c__law_behind : Clp P w K mg base CX0 1 "_law_behind" 2 (leaves 2) 0 .leaf g__law_behind) (c__law_half_of : Clp P w K mg base CX0 1 "_law_half_of" 1 ((.rcd (rf_side A_Keeper)) :: leaves 0) 1 .leaf g__law_half_of) (c__law_is_way : Clp P w K mg base CX0 1 "_law_is_way" 4 ((.rcd (rf_side A_Keeper)) :: leaves 3) 1 .leaf g__law_is_way) (c__law_told_by : Clp P w K mg base CX0 6 "_law_told_by" 4 ((.ins A_Keeper sf_Keeper) :: leaves 3) 1 .leaf g__law_told_by) : FnG P w K mg base CX0 7 f fd ["_law_side_here", "_law_name", "_law_other"] (spV K mg 3 ((.rcd (rf_side A_Keeper)) :: leaves 2) 1 .leaf g__law_say) := by
  refine Fun.okG (k := 6) (n := 3) (psh := ((.rcd (rf_side A_Keeper)) :: leaves 2)) (lsh := [.leaf, .leaf, .leaf]) (fx := 1) (rsh := .leaf) (m := m__law_say) G sc__law_say rfl rfl rfl (by decide) (.inl rfl) fun X h1 h2 h3 h4 h5 h6 h7 h8 h9 henv hr hgd => ?_
  obtain ⟨xP, xw, xK, xmg, xb, xA, xN, xs, xH, xe, xo, xst, xex, xfn, xc, xpn, xx⟩ := X
  obtain ⟨xL, xf, xcd, henv⟩ := henv
  dsimp only at h1 h2 h3 h4 h5 h6 h7 h8 h9 henv hr hgd
  subst h1 h2 h3 h4 h5 h6 h7 h8 h9 henv
  exact ⟨_, (svs_cons (sv_set (i := 3) rfl (by decide) sc__law_say.nd rfl (by first | exact .inl rfl | exact .inr rfl) (ef_call (fr_rcd (k := 0) (hu1 hr) 0 1 (.inl rfl)) (c__law_told_by.cl (by decide) rfl rfl rfl rfl rfl) px0 hr hgd (ea_cons ev_str (ea_cons (ev_var 1) (ea_cons (ev_var 2) ea_nil))) rfl rfl rfl (nd_side _)))
    (svs_cons (sv_for PassesOwn.never rfl (kv_tup xK rfl (ev_tup (ea_cons (ev_var 1) (ea_cons (ev_var 2) ea_nil)))) (gv_name sc__law_say.nd (i := 4) rfl (by first | exact .inl rfl | exact .inr rfl) rfl (fun σ x => tk_set (by decide) σ x)) (svs_one (sv_if (et_cmp (k_nin xK rfl (hu64 hr)) (s_nin (K := xK)) (eo_of (ev_var 4)) (eo_of (ef_leaf (fr_rcd (k := 0) (hu1 hr) 0 0 (.inl rfl)) rfl rfl rfl (nd_side _))) (by first | exact nomark _ | rfl)) (svs_one (sv_ret (ev_cmp (k_eq xK rfl (hu65 hr)) (s_eq (K := xK)) (eo_of (ev_var 3)) (eo_of (ev_tup (ea_cons ev_str (ea_cons (ev_var 4) ea_nil)))) (by first | exact nomark _ | rfl)))) svs_nil)))
    (svs_cons (sv_if (et_cmp (k_eq xK rfl (hu65 hr)) (s_eq (K := xK)) (eo_of (ev_var 1)) (eo_of (ev_var 2)) (by first | exact nomark _ | rfl)) (svs_one (sv_ret (ev_cmp (k_eq xK rfl (hu65 hr)) (s_eq (K := xK)) (eo_of (ev_var 3)) (eo_of (ev_tup (ea_cons ev_str (ea_cons (ev_tup ea_nil) ea_nil)))) (by first | exact nomark _ | rfl)))) svs_nil)
    (svs_cons (sv_if (et_cmp (k_in xK rfl (hu64 hr)) (s_in (K := xK)) (eo_of (ev_var 1)) (eo_of (kv_call0 xK rfl xmg rfl (c__law_behind.cl (by decide) rfl rfl rfl rfl rfl) px0 hr hgd (ea_cons (kv_call1 xK rfl xmg rfl 0 (c__law_half_of.cl (by decide) rfl rfl rfl rfl rfl) px0 hr hgd ea_nil) (ea_cons (ev_var 2) ea_nil)))) (by first | exact nomark _ | rfl)) (svs_one (sv_ret (ev_and (ev_callB (k_isi xK rfl) (s_isi (K := xK)) (eos_cons (eo_of (ev_var 3)) (eos_cons (eo_of (ev_ty gs.b_tuple bt_tuple)) eos_nil)) gs.b_isinstance bt_isinstance) (ev_and (ev_cmp (k_eq xK rfl (hu65 hr)) (s_eq (K := xK)) (eo_of (ev_ix (k_ix xK rfl (hu1 hr)) (s_ix (K := xK)) (eo_of (ev_var 3)) (eo_of ev_int))) (eo_of ev_str) (by first | exact nomark _ | rfl)) (ev_one (kv_call1 xK rfl xmg rfl 0 (c__law_is_way.cl (by decide) rfl rfl rfl rfl rfl) px0 hr hgd (ea_cons (ev_ix (k_ix xK rfl (hu1 hr)) (s_ix (K := xK)) (eo_of (ev_var 3)) (eo_of ev_int)) (ea_cons (ev_var 2) (ea_cons (ev_var 1) ea_nil))))))))) svs_nil)
    (svs_cons (sv_if (et_cmp (k_eq xK rfl (hu65 hr)) (s_eq (K := xK)) (eo_of (ev_callBL (k_len xK rfl) (s_len (K := xK)) (el_fr (fr_rcd (k := 0) (hu1 hr) 0 2 (.inl rfl)) rfl rfl rfl (nd_side _) (.inr (.inr rfl))) gs.b_len bt_len)) (eo_of ev_int) (by first | exact nomark _ | rfl)) (svs_one (sv_ret (ev_cmp (k_eq xK rfl (hu65 hr)) (s_eq (K := xK)) (eo_of (ev_var 3)) (eo_of (ev_tup (ea_cons ev_str (ea_cons ev_str ea_nil)))) (by first | exact nomark _ | rfl)))) svs_nil)
    (svs_cons (sv_set (i := 5) rfl (by decide) sc__law_say.nd rfl (by first | exact .inl rfl | exact .inr rfl) (ef_leaf (fr_rcd (k := 0) (hu1 hr) 0 3 (.inl rfl)) rfl rfl rfl (nd_side _)))
    (svs_cons (ef_put (hu1 hr) (fr_rcd (k := 0) (hu1 hr) 0 2 (.inl rfl)) (ev_var 5) (ev_tup (ea_cons (ev_var 1) (ea_cons (ev_var 2) ea_nil))) rfl rfl rfl (nd_side _))
    (svs_cons (sv_rset (sf := (rf_side A_Keeper)) 0 3 (hu1 hr) (ev_op (k_add xK rfl) (s_add (K := xK)) (eo_of (ev_var 5)) (eo_of ev_int)) rfl rfl (nd_side _) (ln_side _))
    (svs_cons (sv_expr (ef_mtL (fr_rcd (k := 0) (hu1 hr) 0 4 (.inl rfl)) PySem.F.slot_list_append PySem.F.type_list_append mt_append m_append (ea_cons (ev_tup (ea_cons ev_bl (ea_cons (ev_var 5) (ea_cons (ev_tup (ea_cons (ev_var 1) (ea_cons (ev_var 2) ea_nil))) ea_nil)))) ea_nil) rfl rfl rfl (nd_side _)))
    (svs_cons (sv_rset (sf := (rf_side A_Keeper)) 0 5 (hu1 hr) (ev_lst ea_nil) rfl rfl (nd_side _) (ln_side _))
    (svs_one (sv_ret (ev_cmp (k_eq xK rfl (hu65 hr)) (s_eq (K := xK)) (eo_of (ev_callB (k_repr xK rfl hgd (hu65 hr)) (s_repr (K := xK)) (eos_cons (eo_of (ev_var 3)) eos_nil) gs.b_repr bt_repr)) (eo_of (ev_callT call_str_int s_strI (eos_cons (eo_of (ev_var 5)) eos_nil) gs.b_str bt_str)) (by first | exact nomark _ | rfl))))))))))))))⟩

/-! Keeper__half -/
abbrev s_Keeper__half : Stmt := clsStm (topS 38) 12
theorem sc_Keeper__half : FnScope ["self", "number"] ["self"] (defScope s_Keeper__half) := ⟨rfl, rfl, rfl, by decide +kernel, rfl, by decide +kernel, by decide +kernel⟩
def m_Keeper__half : MS :=
  (mRet (mTup (mCons (mFd 0 0) (mCons (mOp1 tupleD (mV (mLc (mTs (mCall1 0 0 g_Keeper__numbers mNil)) (kName 1) mYes (mFix 0 1 (mVar 1)) [1]))) mNil))))
def g_Keeper__half : List D → R D := fun ds => (runF 2 1 m_Keeper__half ds).noEx
theorem fn_Keeper__half {f : Addr} {fd : FuncData} (G : L2.Fun K "half" "Keeper.half" s_Keeper__half f fd) (gs : Gs mg) {A_Keeper fI_Keeper : Addr} (kc_Keeper : Kc_Keeper K mg A_Keeper fI_Keeper) (c_Keeper__numbers : Mlp P w K mg base CX0 1 A_Keeper "numbers" 1 ((.ins A_Keeper sf_Keeper) :: leaves 0) 1 .leaf g_Keeper__numbers) : FnG P w K mg base CX0 2 f fd ["self"] (spV K mg 1 ((.ins A_Keeper sf_Keeper) :: leaves 0) 1 .leaf g_Keeper__half) := by
  refine Fun.okG (k := 1) (n := 1) (psh := ((.ins A_Keeper sf_Keeper) :: leaves 0)) (lsh := [.leaf]) (fx := 1) (rsh := .leaf) (m := m_Keeper__half) G sc_Keeper__half rfl rfl rfl (by decide) (.inl rfl) fun X h1 h2 h3 h4 h5 h6 h7 h8 h9 henv hr hgd => ?_
  obtain ⟨xP, xw, xK, xmg, xb, xA, xN, xs, xH, xe, xo, xst, xex, xfn, xc, xpn, xx⟩ := X
  obtain ⟨xL, xf, xcd, henv⟩ := henv
  dsimp only at h1 h2 h3 h4 h5 h6 h7 h8 h9 henv hr hgd
  subst h1 h2 h3 h4 h5 h6 h7 h8 h9 henv
  exact ⟨_, (svs_one (sv_ret (ev_tup (ea_cons (kv_fldO (sf := sf_Keeper) xK rfl 0 0 kc_Keeper.cl kc_Keeper.na_names_told) (ea_cons (kv_tupleOf xK rfl (eo_of (ev_frz (ev_lc (own := [("number", 1)]) rfl sc_Keeper__half.nd (kv_tup xK rfl (kv_meth0 xK rfl xmg rfl 0 kc_Keeper.cl (c_Keeper__numbers.ml (by decide) rfl rfl rfl rfl rfl) px0 hr hgd)) (blkOk_by (N := ["self", "number"]) (sc := defScope s_Keeper__half) (own := [("number", 1)]) (by decide +kernel)) (by decide) (hk1 rfl) (fun _ _ _ _ _ => (gv_name sc_Keeper__half.nd (i := 1) rfl (by first | exact .inl rfl | exact .inr rfl) rfl (fun σ x => tw_set (by decide) σ x))) (fun _ _ _ _ _ => ets_nil) (fun _ _ _ _ _ => (kv_fix (sf := sf_Keeper) xK rfl 0 1 (k_ix xK rfl (hu1 hr)) (s_ix (K := xK)) kc_Keeper.cl kc_Keeper.na_kept (ev_var 1) (.inr (.inr rfl))))))) gs.b_tuple) ea_nil)))))⟩

/-! _law_looked -/
abbrev s__law_looked : Stmt := topS 51
theorem sc__law_looked : FnScope ["_law_side_here", "_law_keeper", "_law_number", "_law_due"] ["_law_side_here"] (defScope s__law_looked) := ⟨rfl, rfl, rfl, by decide +kernel, rfl, by decide +kernel, by decide +kernel⟩
noncomputable def m__law_looked : MS :=
  (mAlias 0 1 1 (mSeq (mIfS (mOr (mTest (mOp2 neD (mV (mOpN (one reprD) (mOCons (mV (mCallF (gdK 1) 0 1 0 g_Keeper__numbers mNil)) mONil))) (mV (mOpN (one reprD) (mOCons (mV (mOp1 tupleD (mV (mOpL sortKD (mFd 0 2))))) mONil))))) (mTest (mOp2 neD (mV (mOpN (one reprD) (mOCons (mV (mCallF (gdK 1) 0 1 0 g_Keeper__half mNil)) mONil))) (mV (mOpN (one reprD) (mOCons (mV (mCall1 0 0 g__law_half_of mNil)) mONil)))))) (mRet (mC (.bl false))) mNx)
  (mSeq (mLoop (kName 2) (mSeq (mSet 3 (mGetH 0 2 (mVar 2) (mTup (mCons (mC (.str "saying")) (mCons (mVar 2) mNil)))))
  (mIfS (mTest (mOp2 neD (mV (mOpN (one reprD) (mOCons (mV (mCallF (gdK 1) 0 1 3 g__law_told_by (mCons (mC (.str "saying")) (mCons (mVar 2) (mCons (mC .non) mNil))))) mONil))) (mV (mOpN (one reprD) (mOCons (mV (mVar 3)) mONil))))) (mRet (mC (.bl false))) mNx)) (mR2 (mCons (mOp1 negD (mV (mC (.int 1)))) (mCons (mOp2 addD (mV (mFd 0 3)) (mV (mC (.int 2)))) mNil))))
  (mRet (mC (.bl true))))))
noncomputable def g__law_looked : List D → R D := fun ds => (runF 4 1 m__law_looked ds).noEx
theorem fn__law_looked {f : Addr} {fd : FuncData} (G : L2.Fun K "_law_looked" "_law_looked" s__law_looked f fd) (gs : Gs mg) {A_Keeper fI_Keeper : Addr} (kc_Keeper : Kc_Keeper K mg A_Keeper fI_Keeper) (c_Keeper__half : Mlp P w K mg base CX0 2 A_Keeper "half" 1 ((.ins A_Keeper sf_Keeper) :: leaves 0) 1 .leaf g_Keeper__half) (c_Keeper__numbers : Mlp P w K mg base CX0 1 A_Keeper "numbers" 1 ((.ins A_Keeper sf_Keeper) :: leaves 0) 1 .leaf g_Keeper__numbers) (c__law_told_by : Clp P w K mg base CX0 6 "_law_told_by" 4 ((.ins A_Keeper sf_Keeper) :: leaves 3) 1 .leaf g__law_told_by) (cq__law_half_of : ∀ q, Clp P w K mg base CX0 1 "_law_half_of" 1 ((.rcq (rf_side A_Keeper) 1 q) :: leaves 0) 1 .leaf g__law_half_of) : FnG P w K mg base CX0 7 f fd ["_law_side_here"] (spV K mg 1 ((.rcd (rf_side A_Keeper)) :: leaves 0) 1 .leaf g__law_looked) := by
  refine Fun.okG (k := 6) (n := 1) (psh := ((.rcd (rf_side A_Keeper)) :: leaves 0)) (lsh := [.leaf, .leaf, .leaf]) (fx := 1) (rsh := .leaf) (m := m__law_looked) G sc__law_looked rfl rfl rfl (by decide) (.inl rfl) fun X h1 h2 h3 h4 h5 h6 h7 h8 h9 henv hr hgd => ?_
  obtain ⟨xP, xw, xK, xmg, xb, xA, xN, xs, xH, xe, xo, xst, xex, xfn, xc, xpn, xx⟩ := X
  obtain ⟨xL, xf, xcd, henv⟩ := henv
  dsimp only at h1 h2 h3 h4 h5 h6 h7 h8 h9 henv hr hgd
  subst h1 h2 h3 h4 h5 h6 h7 h8 h9 henv
  exact ⟨_, (svs_alias (fr_rcd (k := 0) (hu1 hr) 0 1 (.inl rfl)) rfl rfl (nd_side _) (by decide) rfl (by decide) sc__law_looked.nd rfl (by first | exact .inl rfl | exact .inr rfl) (fun q => (svs_cons (sv_if (et_w (ew_or (et_cmp (k_ne xK rfl (hu65 hr)) (s_ne (K := xK)) (eo_of (ev_callB (k_repr xK rfl hgd (hu65 hr)) (s_repr (K := xK)) (eos_cons (eo_of (ef_meth0 (fr_ali 0 1 1 rfl) kc_Keeper.cl (c_Keeper__numbers.ml (by decide) rfl rfl rfl rfl rfl) px0 hr hgd rfl rfl rfl (nd_side _) (by decide))) eos_nil) gs.b_repr bt_repr)) (eo_of (ev_callB (k_repr xK rfl hgd (hu65 hr)) (s_repr (K := xK)) (eos_cons (eo_of (kv_tupleOf xK rfl (eo_of (ev_frz (ev_callBL (call_sortedDI rfl) (s_sortK (K := xK)) (el_fr (fr_rcd (k := 1) (hu1 hr) 0 2 (.inr ⟨_, rfl⟩)) rfl rfl rfl (nd_side _) (.inr (.inr rfl))) gs.b_sorted bt_sorted))) gs.b_tuple)) eos_nil) gs.b_repr bt_repr)) (by first | exact nomark _ | rfl)) (ew_or1 (et_cmp (k_ne xK rfl (hu65 hr)) (s_ne (K := xK)) (eo_of (ev_callB (k_repr xK rfl hgd (hu65 hr)) (s_repr (K := xK)) (eos_cons (eo_of (ef_meth0 (fr_ali 0 1 1 rfl) kc_Keeper.cl (c_Keeper__half.ml (by decide) rfl rfl rfl rfl rfl) px0 hr hgd rfl rfl rfl (nd_side _) (by decide))) eos_nil) gs.b_repr bt_repr)) (eo_of (ev_callB (k_repr xK rfl hgd (hu65 hr)) (s_repr (K := xK)) (eos_cons (eo_of (kv_call1 xK rfl xmg rfl 0 ((cq__law_half_of q).cl (by decide) rfl rfl rfl rfl rfl) px0 hr hgd ea_nil)) eos_nil) gs.b_repr bt_repr)) (by first | exact nomark _ | rfl))))) (svs_one (sv_ret ev_bl)) svs_nil)
    (svs_cons (sv_for PassesOwn.never rfl (iv_rng2 (ea_cons (ev_un un_neg s_neg (eo_of ev_int)) (ea_cons (ev_op (k_add xK rfl) (s_add (K := xK)) (eo_of (ef_leaf (fr_rcd (k := 1) (hu1 hr) 0 3 (.inr ⟨_, rfl⟩)) rfl rfl rfl (nd_side _))) (eo_of ev_int)) ea_nil)) gs.b_range) (gv_name sc__law_looked.nd (i := 2) rfl (by first | exact .inl rfl | exact .inr rfl) rfl (fun σ x => tk_set (by decide) σ x)) (svs_cons (sv_set (i := 3) rfl (by decide) sc__law_looked.nd rfl (by first | exact .inl rfl | exact .inr rfl) (ef_get (hu1 hr) (fr_rcd (k := 1) (hu1 hr) 0 2 (.inr ⟨_, rfl⟩)) (ev_var 2) (ev_tup (ea_cons ev_str (ea_cons (ev_var 2) ea_nil))) rfl rfl rfl (nd_side _) (.inr (.inr rfl))))
    (svs_one (sv_if (et_cmp (k_ne xK rfl (hu65 hr)) (s_ne (K := xK)) (eo_of (ev_callB (k_repr xK rfl hgd (hu65 hr)) (s_repr (K := xK)) (eos_cons (eo_of (ef_call (fr_ali 0 1 1 rfl) (c__law_told_by.cl (by decide) rfl rfl rfl rfl rfl) px0 hr hgd (ea_cons ev_str (ea_cons (ev_var 2) (ea_cons ev_non ea_nil))) rfl rfl rfl (nd_side _))) eos_nil) gs.b_repr bt_repr)) (eo_of (ev_callB (k_repr xK rfl hgd (hu65 hr)) (s_repr (K := xK)) (eos_cons (eo_of (ev_var 3)) eos_nil) gs.b_repr bt_repr)) (by first | exact nomark _ | rfl)) (svs_one (sv_ret ev_bl)) svs_nil))))
    (svs_one (sv_ret ev_bl))))))⟩

/-! _law_asked -/
abbrev s__law_asked : Stmt := topS 52
theorem sc__law_asked : FnScope ["_law_side_here", "_law_name", "_law_other", "_law_half", "_law_way", "_law_known"] ["_law_side_here", "_law_name", "_law_other"] (defScope s__law_asked) := ⟨rfl, rfl, rfl, by decide +kernel, rfl, by decide +kernel, by decide +kernel⟩
noncomputable def m__law_asked : MS :=
  (mSeq (mSet 3 (mCall1 0 0 g__law_half_of mNil))
  (mSeq (mSet 4 (mCallF gd0 0 1 3 g__law_told_by (mCons (mC (.str "lead")) (mCons (mVar 1) (mCons (mVar 2) mNil)))))
  (mSeq (mSet 5 (mCallF gd0 0 1 3 g__law_told_by (mCons (mC (.str "knows")) (mCons (mVar 1) (mCons (mVar 2) mNil)))))
  (mSeq (mIfS (mTest (mOp2 inD (mV (mVar 2)) (mV (mCall0 2 g__law_behind (mCons (mVar 3) (mCons (mVar 1) mNil)))))) (mRet (mAndV (mOp2 isBD (mV (mVar 5)) (mV (mC (.bl true)))) (mCall1 0 3 g__law_is_way (mCons (mVar 4) (mCons (mVar 1) (mCons (mVar 2) mNil)))))) mNx)
  (mSeq (mIfS (mOr (mTest (mOp2 eqD (mV (mVar 1)) (mV (mVar 2)))) (mTest (mOp2 inD (mV (mVar 1)) (mV (mCall0 2 g__law_behind (mCons (mVar 3) (mCons (mVar 2) mNil))))))) (mRet (mAndV (mOp2 isBD (mV (mVar 5)) (mV (mC (.bl false)))) (mOp2 isND (mV (mVar 4)) (mV (mC .non))))) mNx)
  (mRet (mAndV (mOp2 isND (mV (mVar 5)) (mV (mC .non))) (mOp2 isND (mV (mVar 4)) (mV (mC .non))))))))))
noncomputable def g__law_asked : List D → R D := fun ds => (runF 6 1 m__law_asked ds).noEx
theorem fn__law_asked {f : Addr} {fd : FuncData} (G : L2.Fun K "_law_asked" "_law_asked" s__law_asked f fd) (gs : Gs mg) {A_Keeper fI_Keeper : Addr} (kc_Keeper : Kc_Keeper K mg A_Keeper fI_Keeper) (c__law_behind : Clp P w K mg base CX0 1 "_law_behind" 2 (leaves 2) 0 .leaf g__law_behind) (c__law_half_of : Clp P w K mg base CX0 1 "_law_half_of" 1 ((.rcd (rf_side A_Keeper)) :: leaves 0) 1 .leaf g__law_half_of) (c__law_is_way : Clp P w K mg base CX0 1 "_law_is_way" 4 ((.rcd (rf_side A_Keeper)) :: leaves 3) 1 .leaf g__law_is_way) (c__law_told_by : Clp P w K mg base CX0 6 "_law_told_by" 4 ((.ins A_Keeper sf_Keeper) :: leaves 3) 1 .leaf g__law_told_by) : FnG P w K mg base CX0 7 f fd ["_law_side_here", "_law_name", "_law_other"] (spV K mg 3 ((.rcd (rf_side A_Keeper)) :: leaves 2) 1 .leaf g__law_asked) := by
  refine Fun.okG (k := 6) (n := 3) (psh := ((.rcd (rf_side A_Keeper)) :: leaves 2)) (lsh := [.leaf, .leaf, .leaf]) (fx := 1) (rsh := .leaf) (m := m__law_asked) G sc__law_asked rfl rfl rfl (by decide) (.inl rfl) fun X h1 h2 h3 h4 h5 h6 h7 h8 h9 henv hr hgd => ?_
  obtain ⟨xP, xw, xK, xmg, xb, xA, xN, xs, xH, xe, xo, xst, xex, xfn, xc, xpn, xx⟩ := X
  obtain ⟨xL, xf, xcd, henv⟩ := henv
  dsimp only at h1 h2 h3 h4 h5 h6 h7 h8 h9 henv hr hgd
  subst h1 h2 h3 h4 h5 h6 h7 h8 h9 henv
  exact ⟨_, (svs_cons (sv_set (i := 3) rfl (by decide) sc__law_asked.nd rfl (by first | exact .inl rfl | exact .inr rfl) (kv_call1 xK rfl xmg rfl 0 (c__law_half_of.cl (by decide) rfl rfl rfl rfl rfl) px0 hr hgd ea_nil))
    (svs_cons (sv_set (i := 4) rfl (by decide) sc__law_asked.nd rfl (by first | exact .inl rfl | exact .inr rfl) (ef_call (fr_rcd (k := 0) (hu1 hr) 0 1 (.inl rfl)) (c__law_told_by.cl (by decide) rfl rfl rfl rfl rfl) px0 hr hgd (ea_cons ev_str (ea_cons (ev_var 1) (ea_cons (ev_var 2) ea_nil))) rfl rfl rfl (nd_side _)))
    (svs_cons (sv_set (i := 5) rfl (by decide) sc__law_asked.nd rfl (by first | exact .inl rfl | exact .inr rfl) (ef_call (fr_rcd (k := 0) (hu1 hr) 0 1 (.inl rfl)) (c__law_told_by.cl (by decide) rfl rfl rfl rfl rfl) px0 hr hgd (ea_cons ev_str (ea_cons (ev_var 1) (ea_cons (ev_var 2) ea_nil))) rfl rfl rfl (nd_side _)))
    (svs_cons (sv_if (et_cmp (k_in xK rfl (hu64 hr)) (s_in (K := xK)) (eo_of (ev_var 2)) (eo_of (kv_call0 xK rfl xmg rfl (c__law_behind.cl (by decide) rfl rfl rfl rfl rfl) px0 hr hgd (ea_cons (ev_var 3) (ea_cons (ev_var 1) ea_nil)))) (by first | exact nomark _ | rfl)) (svs_one (sv_ret (ev_and (ev_cmp op_is_bl s_isB (eo_of (ev_var 5)) (eo_of ev_bl) (by first | exact nomark _ | rfl)) (ev_one (kv_call1 xK rfl xmg rfl 0 (c__law_is_way.cl (by decide) rfl rfl rfl rfl rfl) px0 hr hgd (ea_cons (ev_var 4) (ea_cons (ev_var 1) (ea_cons (ev_var 2) ea_nil)))))))) svs_nil)
    (svs_cons (sv_if (et_w (ew_or (et_cmp (k_eq xK rfl (hu65 hr)) (s_eq (K := xK)) (eo_of (ev_var 1)) (eo_of (ev_var 2)) (by first | exact nomark _ | rfl)) (ew_or1 (et_cmp (k_in xK rfl (hu64 hr)) (s_in (K := xK)) (eo_of (ev_var 1)) (eo_of (kv_call0 xK rfl xmg rfl (c__law_behind.cl (by decide) rfl rfl rfl rfl rfl) px0 hr hgd (ea_cons (ev_var 3) (ea_cons (ev_var 2) ea_nil)))) (by first | exact nomark _ | rfl))))) (svs_one (sv_ret (ev_and (ev_cmp op_is_bl s_isB (eo_of (ev_var 5)) (eo_of ev_bl) (by first | exact nomark _ | rfl)) (ev_one (ev_cmp op_isN s_isN (eo_of (ev_var 4)) (eo_of ev_non) (by first | exact nomark _ | rfl)))))) svs_nil)
    (svs_one (sv_ret (ev_and (ev_cmp op_isN s_isN (eo_of (ev_var 5)) (eo_of ev_non) (by first | exact nomark _ | rfl)) (ev_one (ev_cmp op_isN s_isN (eo_of (ev_var 4)) (eo_of ev_non) (by first | exact nomark _ | rfl)))))))))))⟩

/-! Keeper____init__ -/
abbrev s_Keeper____init__ : Stmt := clsStm (topS 38) 0
theorem sc_Keeper____init__ : FnScope ["self", "names", "own"] ["self", "names"] (defScope s_Keeper____init__) := ⟨rfl, rfl, rfl, by decide +kernel, rfl, by decide +kernel, by decide +kernel⟩
noncomputable def m_Keeper____init__ : MS :=
  (mSeq (mSet 2 (mVar 1))
  (mSeq (mIfS (mTest (mOpN (two isiD) (mOCons (mV (mVar 1)) (mOCons (mV (mC (.ty "list"))) mONil)))) (mSet 2 (mOp1 tupleD (mV (mVar 1)))) mNx)
  (mSeq (mDrop (mCall0 1 g_right_half (mCons (mTup (mCons (mVar 2) (mCons (mTup mNil) mNil))) mNil)))
  (mSeq (mFset 0 0 "names_told" (mVar 2))
  (mSeq (mFset 0 1 "kept" (mC (.dK [])))
  (mSeq (mFset 0 2 "next_number" (mC (.int 0)))
  (mSeq (mFset 0 3 "deeds" (mLst mNil))
  (mFset 0 4 "undone" (mLst mNil)))))))))
noncomputable def g_Keeper____init__ : List D → R D := fun ds => (runF 3 1 m_Keeper____init__ ds).noEx
theorem fn_Keeper____init__ {f : Addr} {fd : FuncData} (G : L2.Fun K "__init__" "Keeper.__init__" s_Keeper____init__ f fd) (gs : Gs mg) {A_Keeper fI_Keeper : Addr} (kc_Keeper : Kc_Keeper K mg A_Keeper fI_Keeper) (c_right_half : Clp P w K mg base CX0 4 "right_half" 1 (leaves 1) 0 .leaf g_right_half) : FnG P w K mg base CX0 5 f fd ["self", "names"] (spV K mg 2 ((.ins A_Keeper sf_Keeper) :: leaves 1) 1 .leaf g_Keeper____init__) := by
  refine Fun.okG (k := 4) (n := 2) (psh := ((.ins A_Keeper sf_Keeper) :: leaves 1)) (lsh := [.leaf]) (fx := 1) (rsh := .leaf) (m := m_Keeper____init__) G sc_Keeper____init__ rfl rfl rfl (by decide) (.inl rfl) fun X h1 h2 h3 h4 h5 h6 h7 h8 h9 henv hr hgd => ?_
  obtain ⟨xP, xw, xK, xmg, xb, xA, xN, xs, xH, xe, xo, xst, xex, xfn, xc, xpn, xx⟩ := X
  obtain ⟨xL, xf, xcd, henv⟩ := henv
  dsimp only at h1 h2 h3 h4 h5 h6 h7 h8 h9 henv hr hgd
  subst h1 h2 h3 h4 h5 h6 h7 h8 h9 henv
  exact ⟨_, (svs_cons (sv_set (i := 2) rfl (by decide) sc_Keeper____init__.nd rfl (by first | exact .inl rfl | exact .inr rfl) (ev_var 1))
    (svs_cons (sv_if (et_val (ev_callB (k_isi xK rfl) (s_isi (K := xK)) (eos_cons (eo_of (ev_var 1)) (eos_cons (eo_of (ev_ty gs.b_list bt_list)) eos_nil)) gs.b_isinstance bt_isinstance)) (svs_one (sv_set (i := 2) rfl (by decide) sc_Keeper____init__.nd rfl (by first | exact .inl rfl | exact .inr rfl) (kv_tupleOf xK rfl (eo_of (ev_var 1)) gs.b_tuple))) svs_nil)
    (svs_cons (sv_expr (kv_call0 xK rfl xmg rfl (c_right_half.cl (by decide) rfl rfl rfl rfl rfl) px0 hr hgd (ea_cons (ev_tup (ea_cons (ev_var 2) (ea_cons (ev_tup ea_nil) ea_nil))) ea_nil)))
    (svs_cons (kv_fset (sf := sf_Keeper) xK rfl 0 0 kc_Keeper.cl kc_Keeper.na_names_told (ev_var 2))
    (svs_cons (kv_fset (sf := sf_Keeper) xK rfl 0 1 kc_Keeper.cl kc_Keeper.na_kept ev_dnewK)
    (svs_cons (kv_fset (sf := sf_Keeper) xK rfl 0 2 kc_Keeper.cl kc_Keeper.na_next_number ev_int)
    (svs_cons (kv_fset (sf := sf_Keeper) xK rfl 0 3 kc_Keeper.cl kc_Keeper.na_deeds (ev_lst ea_nil))
    (svs_one (kv_fset (sf := sf_Keeper) xK rfl 0 4 kc_Keeper.cl kc_Keeper.na_undone (ev_lst ea_nil))))))))))⟩

/-! law -/
abbrev s_law : Stmt := topS 53
theorem sc_law : FnScope ["_law_script", "_law_feed_here", "_law_names_here", "_law_side_here", "_law_turn", "_law_some", "_law_name", "_law_word", "_law_other"] ["_law_script"] (defScope s_law) := ⟨rfl, rfl, rfl, by decide +kernel, rfl, by decide +kernel, by decide +kernel⟩
noncomputable def m_law : MS :=
  (mSeq (mSet 1 (mCall0 1 g__law_feed (mCons (mVar 0) mNil)))
  (mSeq (mSet 2 (mCall1 1 1 g__law_names (mCons (mOp2 addD (mV (mC (.int 1))) (mV (mCall1 1 1 g__law_draw (mCons (mC (.int 8)) mNil)))) mNil)))
  (mSeq (mSet 3 (mCallN2 g__law_side (mOp1 tupleD (mV (mVar 2))) (mNew "Keeper" 1 g_Keeper____init__ (mCons (mOp1 tupleD (mV (mVar 2))) mNil))))
  (mSeq (mLoop (kName 4) (mSeq (mSet 5 (mOp2 addD (mV (mVar 2)) (mV (mSl cutD (mV (mLst (mCons (mC (.str "zzz")) (mCons (mC (.str "q")) mNil)))) mNoPart (mPart (mOp2 fdivD (mV (mCall1 1 1 g__law_draw (mCons (mC (.int 9)) mNil))) (mV (mC (.int 7)))))))))
  (mSeq (mIfS (mNot (mTest (mCall1 3 2 g__law_say (mCons (mOp2 ixD (mV (mVar 5)) (mV (mCall1 1 1 g__law_draw (mCons (mOpN (one lenD) (mOCons (mV (mVar 5)) mONil)) mNil)))) (mCons (mOp2 ixD (mV (mVar 5)) (mV (mCall1 1 1 g__law_draw (mCons (mOpN (one lenD) (mOCons (mV (mVar 5)) mONil)) mNil)))) mNil))))) (mRet (mC (.bl false))) mNx)
  (mSeq (mIfS (mAnd (mTest (mOp2 eqD (mV (mCall1 1 1 g__law_draw (mCons (mC (.int 4)) mNil))) (mV (mC (.int 0))))) (mNot (mTest (mCall1 3 0 g__law_looked mNil)))) (mRet (mC (.bl false))) mNx)
  (mIfS (mTest (mOp2 eqD (mV (mCall1 1 1 g__law_draw (mCons (mC (.int 6)) mNil))) (mV (mC (.int 0))))) (mLoop (kName 6) (mIfS (mTest (mOp2 neL0D (mV (mLc (mLs (mVar 2)) (kName 8) (mNot (mTest (mCall1 3 2 g__law_asked (mCons (mVar 6) (mCons (mVar 8) mNil))))) (mC (.int 1)) [8])) (mV (mLst mNil)))) (mRet (mC (.bl false))) mNx) (mLs (mVar 2))) mNx)))) (mR1 (mCons (mCall1 1 1 g__law_draw (mCons (mC (.int 21)) mNil)) mNil)))
  (mSeq (mLoop (kName 6) (mIfS (mTest (mOp2 neL0D (mV (mLc (mLs (mVar 2)) (kName 8) (mNot (mTest (mCall1 3 2 g__law_asked (mCons (mVar 6) (mCons (mVar 8) mNil))))) (mC (.int 1)) [8])) (mV (mLst mNil)))) (mRet (mC (.bl false))) mNx) (mLs (mVar 2)))
  (mSeq (mSet 5 (mLc (mTs (mTup (mCons (mC (.str "zzz")) (mCons (mC (.str "q")) (mCons (mC (.str "yy")) mNil))))) (kName 6) (mTest (mOp2 ninD (mV (mVar 6)) (mV (mVar 2)))) (mVar 6) [6]))
  (mSeq (mLoop (kName 7) (mSeq (mIfS (mTest (mOp2 neD (mV (mCallF gd0 3 1 3 g__law_told_by (mCons (mVar 7) (mCons (mOp2 ixD (mV (mVar 5)) (mV (mC (.int 0)))) (mCons (mOp2 ixD (mV (mVar 2)) (mV (mC (.int 0)))) mNil))))) (mV (mTup (mCons (mC (.str "name")) (mCons (mOp2 ixD (mV (mVar 5)) (mV (mC (.int 0)))) mNil)))))) (mRet (mC (.bl false))) mNx)
  (mIfS (mTest (mOp2 neD (mV (mCallF gd0 3 1 3 g__law_told_by (mCons (mVar 7) (mCons (mOp2 ixD (mV (mVar 2)) (mV (mC (.int 0)))) (mCons (mOp2 ixD (mV (mVar 5)) (mV (mC (.int 0)))) mNil))))) (mV (mTup (mCons (mC (.str "name")) (mCons (mOp2 ixD (mV (mVar 5)) (mV (mC (.int 0)))) mNil)))))) (mRet (mC (.bl false))) mNx)) (mTs (mTup (mCons (mC (.str "lead")) (mCons (mC (.str "knows")) mNil)))))
  (mRet (mCall1 3 0 g__law_looked mNil)))))))))
noncomputable def g_law : List D → R D := fun ds => (runF 9 0 m_law ds).noEx
theorem fn_law {f : Addr} {fd : FuncData} (G : L2.Fun K "law" "law" s_law f fd) (gs : Gs mg) {A_Keeper fI_Keeper : Addr} (kc_Keeper : Kc_Keeper K mg A_Keeper fI_Keeper) (c_Keeper____init__ : Nlp P w K mg base CX0 5 fI_Keeper 2 ((.ins A_Keeper sf_Keeper) :: leaves 1) 1 .leaf g_Keeper____init__) (c__law_asked : Clp P w K mg base CX0 7 "_law_asked" 3 ((.rcd (rf_side A_Keeper)) :: leaves 2) 1 .leaf g__law_asked) (c__law_draw : Clp P w K mg base CX0 1 "_law_draw" 2 ((.dic .leaf) :: leaves 1) 1 .leaf g__law_draw) (c__law_feed : Clp P w K mg base CX0 1 "_law_feed" 1 (leaves 1) 0 (.dic .leaf) g__law_feed) (c__law_looked : Clp P w K mg base CX0 7 "_law_looked" 1 ((.rcd (rf_side A_Keeper)) :: leaves 0) 1 .leaf g__law_looked) (c__law_names : Clp P w K mg base CX0 2 "_law_names" 2 ((.dic .leaf) :: leaves 1) 1 .leaf g__law_names) (c__law_say : Clp P w K mg base CX0 7 "_law_say" 3 ((.rcd (rf_side A_Keeper)) :: leaves 2) 1 .leaf g__law_say) (c__law_side : Clp P w K mg base CX0 1 "_law_side" 2 [.leaf, (.ins A_Keeper sf_Keeper)] 0 (.rcd (rf_side A_Keeper)) g__law_side) (c__law_told_by : Clp P w K mg base CX0 6 "_law_told_by" 4 ((.ins A_Keeper sf_Keeper) :: leaves 3) 1 .leaf g__law_told_by) : FnG P w K mg base CX0 8 f fd ["_law_script"] (spV K mg 1 (leaves 1) 0 .leaf g_law) := by
  refine Fun.okG (k := 7) (n := 1) (psh := (leaves 1)) (lsh := [(.dic .leaf), .leaf, (.rcd (rf_side A_Keeper)), .leaf, .leaf, .leaf, .leaf, .leaf]) (fx := 0) (rsh := .leaf) (m := m_law) G sc_law rfl rfl rfl (by decide) (.inl rfl) fun X h1 h2 h3 h4 h5 h6 h7 h8 h9 henv hr hgd => ?_
  obtain ⟨xP, xw, xK, xmg, xb, xA, xN, xs, xH, xe, xo, xst, xex, xfn, xc, xpn, xx⟩ := X
  obtain ⟨xL, xf, xcd, henv⟩ := henv
  dsimp only at h1 h2 h3 h4 h5 h6 h7 h8 h9 henv hr hgd
  subst h1 h2 h3 h4 h5 h6 h7 h8 h9 henv
  exact ⟨_, (svs_cons (sv_set (i := 1) rfl (by decide) sc_law.nd rfl (by first | exact .inl rfl | exact .inr rfl) (kv_call0 xK rfl xmg rfl (c__law_feed.cl (by decide) rfl rfl rfl rfl rfl) px0 hr hgd (ea_cons (ev_var 0) ea_nil)))
    (svs_cons (sv_set (i := 2) rfl (by decide) sc_law.nd rfl (by first | exact .inl rfl | exact .inr rfl) (kv_call1 xK rfl xmg rfl 1 (c__law_names.cl (by decide) rfl rfl rfl rfl rfl) px0 hr hgd (ea_cons (ev_op (k_add xK rfl) (s_add (K := xK)) (eo_of ev_int) (eo_of (kv_call1 xK rfl xmg rfl 1 (c__law_draw.cl (by decide) rfl rfl rfl rfl rfl) px0 hr hgd (ea_cons ev_int ea_nil)))) ea_nil)))
    (svs_cons (sv_set (i := 3) rfl (by decide) sc_law.nd rfl (by first | exact .inl rfl | exact .inr rfl) (ev_callN2 (c__law_side.cl (by decide) rfl rfl rfl rfl rfl) px0 hr hgd (kv_tupleOf xK rfl (eo_of (ev_var 2)) gs.b_tuple) (kv_new xK rfl xmg rfl (k := 6) kc_Keeper.maker (c_Keeper____init__.nl (by decide) rfl rfl rfl rfl rfl) px0 hr hgd kc_Keeper.gl (ea_cons (kv_tupleOf xK rfl (eo_of (ev_var 2)) gs.b_tuple) ea_nil))))
    (svs_cons (sv_for PassesOwn.never rfl (iv_rng1 (ea_cons (kv_call1 xK rfl xmg rfl 1 (c__law_draw.cl (by decide) rfl rfl rfl rfl rfl) px0 hr hgd (ea_cons ev_int ea_nil)) ea_nil) gs.b_range) (gv_name sc_law.nd (i := 4) rfl (by first | exact .inl rfl | exact .inr rfl) rfl (fun σ x => tk_set (by decide) σ x)) (svs_cons (sv_set (i := 5) rfl (by decide) sc_law.nd rfl (by first | exact .inl rfl | exact .inr rfl) (ev_op (k_add xK rfl) (s_add (K := xK)) (eo_of (ev_var 2)) (eo_of (ev_slice (k_sl xK rfl) (s_sl (K := xK)) (eo_of (ev_frz (ev_lst (ea_cons ev_str (ea_cons ev_str ea_nil))))) ept_none (ept_some (ev_op op_fdivW s_fdiv (eo_of (kv_call1 xK rfl xmg rfl 1 (c__law_draw.cl (by decide) rfl rfl rfl rfl rfl) px0 hr hgd (ea_cons ev_int ea_nil))) (eo_of ev_int)))))))
    (svs_cons (sv_if (et_not (et_val (kv_call1 xK rfl xmg rfl 3 (c__law_say.cl (by decide) rfl rfl rfl rfl rfl) px0 hr hgd (ea_cons (ev_ix (k_ix xK rfl (hu1 hr)) (s_ix (K := xK)) (eo_of (ev_var 5)) (eo_of (kv_call1 xK rfl xmg rfl 1 (c__law_draw.cl (by decide) rfl rfl rfl rfl rfl) px0 hr hgd (ea_cons (ev_callB (k_len xK rfl) (s_len (K := xK)) (eos_cons (eo_of (ev_var 5)) eos_nil) gs.b_len bt_len) ea_nil)))) (ea_cons (ev_ix (k_ix xK rfl (hu1 hr)) (s_ix (K := xK)) (eo_of (ev_var 5)) (eo_of (kv_call1 xK rfl xmg rfl 1 (c__law_draw.cl (by decide) rfl rfl rfl rfl rfl) px0 hr hgd (ea_cons (ev_callB (k_len xK rfl) (s_len (K := xK)) (eos_cons (eo_of (ev_var 5)) eos_nil) gs.b_len bt_len) ea_nil)))) ea_nil))))) (svs_one (sv_ret ev_bl)) svs_nil)
    (svs_cons (sv_if (et_w (ew_and (et_cmp (k_eq xK rfl (hu65 hr)) (s_eq (K := xK)) (eo_of (kv_call1 xK rfl xmg rfl 1 (c__law_draw.cl (by decide) rfl rfl rfl rfl rfl) px0 hr hgd (ea_cons ev_int ea_nil))) (eo_of ev_int) (by first | exact nomark _ | rfl)) (ew_and1 (et_not (et_val (kv_call1 xK rfl xmg rfl 3 (c__law_looked.cl (by decide) rfl rfl rfl rfl rfl) px0 hr hgd ea_nil)))))) (svs_one (sv_ret ev_bl)) svs_nil)
    (svs_one (sv_if (et_cmp (k_eq xK rfl (hu65 hr)) (s_eq (K := xK)) (eo_of (kv_call1 xK rfl xmg rfl 1 (c__law_draw.cl (by decide) rfl rfl rfl rfl rfl) px0 hr hgd (ea_cons ev_int ea_nil))) (eo_of ev_int) (by first | exact nomark _ | rfl)) (svs_one (sv_for PassesOwn.never rfl (kv_list xK rfl (ev_var 2)) (gv_name sc_law.nd (i := 6) rfl (by first | exact .inl rfl | exact .inr rfl) rfl (fun σ x => tk_set (by decide) σ x)) (svs_one (sv_if (et_cmp (k_neL0 xK rfl (Nat.lt_of_succ_lt (hu1 hr))) (s_neL0 (K := xK)) (eo_of (ev_frz (ev_lc (own := [("_law_other", 8)]) rfl sc_law.nd (kv_list xK rfl (ev_var 2)) (blkOk_by (N := ["_law_script", "_law_feed_here", "_law_names_here", "_law_side_here", "_law_turn", "_law_some", "_law_name", "_law_word", "_law_other"]) (sc := defScope s_law) (own := [("_law_other", 8)]) (by decide +kernel)) (by decide) (hk1 rfl) (fun _ _ _ _ _ => (gv_name sc_law.nd (i := 8) rfl (by first | exact .inl rfl | exact .inr rfl) rfl (fun σ x => tw_set (by decide) σ x))) (fun _ _ _ _ _ => (ets_one (et_not (et_val (kv_call1 xK rfl xmg rfl 3 (c__law_asked.cl (by decide) rfl rfl rfl rfl rfl) px0 hr hgd (ea_cons (ev_var 6) (ea_cons (ev_var 8) ea_nil))))))) (fun _ _ _ _ _ => ev_int)))) (eo_of (ev_frz (ev_lst ea_nil))) (by first | exact nomark _ | rfl)) (svs_one (sv_ret ev_bl)) svs_nil)))) svs_nil))))))
    (svs_cons (sv_for PassesOwn.never rfl (kv_list xK rfl (ev_var 2)) (gv_name sc_law.nd (i := 6) rfl (by first | exact .inl rfl | exact .inr rfl) rfl (fun σ x => tk_set (by decide) σ x)) (svs_one (sv_if (et_cmp (k_neL0 xK rfl (Nat.lt_of_succ_lt (hu1 hr))) (s_neL0 (K := xK)) (eo_of (ev_frz (ev_lc (own := [("_law_other", 8)]) rfl sc_law.nd (kv_list xK rfl (ev_var 2)) (blkOk_by (N := ["_law_script", "_law_feed_here", "_law_names_here", "_law_side_here", "_law_turn", "_law_some", "_law_name", "_law_word", "_law_other"]) (sc := defScope s_law) (own := [("_law_other", 8)]) (by decide +kernel)) (by decide) (hk1 rfl) (fun _ _ _ _ _ => (gv_name sc_law.nd (i := 8) rfl (by first | exact .inl rfl | exact .inr rfl) rfl (fun σ x => tw_set (by decide) σ x))) (fun _ _ _ _ _ => (ets_one (et_not (et_val (kv_call1 xK rfl xmg rfl 3 (c__law_asked.cl (by decide) rfl rfl rfl rfl rfl) px0 hr hgd (ea_cons (ev_var 6) (ea_cons (ev_var 8) ea_nil))))))) (fun _ _ _ _ _ => ev_int)))) (eo_of (ev_frz (ev_lst ea_nil))) (by first | exact nomark _ | rfl)) (svs_one (sv_ret ev_bl)) svs_nil)))
    (svs_cons (sv_setLc (i := 5) (own := [("_law_name", 6)]) rfl sc_law.nd rfl rfl rfl (by decide) (by first | exact .inl rfl | exact .inr rfl) (sw_true rfl rfl rfl (by decide +kernel)) (kv_tup xK rfl (ev_tup (ea_cons ev_str (ea_cons ev_str (ea_cons ev_str ea_nil))))) (blkOk_by (N := ["_law_script", "_law_feed_here", "_law_names_here", "_law_side_here", "_law_turn", "_law_some", "_law_name", "_law_word", "_law_other"]) (sc := defScope s_law) (own := [("_law_name", 6)]) (by decide +kernel)) (by decide) (hk1 rfl) (fun _ _ _ _ _ => (gv_name sc_law.nd (i := 6) rfl (by first | exact .inl rfl | exact .inr rfl) rfl (fun σ x => tw_set (by decide) σ x))) (fun _ _ _ _ _ => (ets_one (et_cmp (k_nin xK rfl (hu64 hr)) (s_nin (K := xK)) (eo_of (ev_var 6)) (eo_of (ev_var 2)) (by first | exact nomark _ | rfl)))) (fun _ _ _ _ _ => (ev_var 6)))
    (svs_cons (sv_for PassesOwn.never rfl (kv_tup xK rfl (ev_tup (ea_cons ev_str (ea_cons ev_str ea_nil)))) (gv_name sc_law.nd (i := 7) rfl (by first | exact .inl rfl | exact .inr rfl) rfl (fun σ x => tk_set (by decide) σ x)) (svs_cons (sv_if (et_cmp (k_ne xK rfl (hu65 hr)) (s_ne (K := xK)) (eo_of (ef_call (fr_rcd (k := 0) (hu1 hr) 3 1 (.inl rfl)) (c__law_told_by.cl (by decide) rfl rfl rfl rfl rfl) px0 hr hgd (ea_cons (ev_var 7) (ea_cons (ev_ix (k_ix xK rfl (hu1 hr)) (s_ix (K := xK)) (eo_of (ev_var 5)) (eo_of ev_int)) (ea_cons (ev_ix (k_ix xK rfl (hu1 hr)) (s_ix (K := xK)) (eo_of (ev_var 2)) (eo_of ev_int)) ea_nil))) rfl rfl rfl (nd_side _))) (eo_of (ev_tup (ea_cons ev_str (ea_cons (ev_ix (k_ix xK rfl (hu1 hr)) (s_ix (K := xK)) (eo_of (ev_var 5)) (eo_of ev_int)) ea_nil)))) (by first | exact nomark _ | rfl)) (svs_one (sv_ret ev_bl)) svs_nil)
    (svs_one (sv_if (et_cmp (k_ne xK rfl (hu65 hr)) (s_ne (K := xK)) (eo_of (ef_call (fr_rcd (k := 0) (hu1 hr) 3 1 (.inl rfl)) (c__law_told_by.cl (by decide) rfl rfl rfl rfl rfl) px0 hr hgd (ea_cons (ev_var 7) (ea_cons (ev_ix (k_ix xK rfl (hu1 hr)) (s_ix (K := xK)) (eo_of (ev_var 2)) (eo_of ev_int)) (ea_cons (ev_ix (k_ix xK rfl (hu1 hr)) (s_ix (K := xK)) (eo_of (ev_var 5)) (eo_of ev_int)) ea_nil))) rfl rfl rfl (nd_side _))) (eo_of (ev_tup (ea_cons ev_str (ea_cons (ev_ix (k_ix xK rfl (hu1 hr)) (s_ix (K := xK)) (eo_of (ev_var 5)) (eo_of ev_int)) ea_nil)))) (by first | exact nomark _ | rfl)) (svs_one (sv_ret ev_bl)) svs_nil))))
    (svs_one (sv_ret (kv_call1 xK rfl xmg rfl 3 (c__law_looked.cl (by decide) rfl rfl rfl rfl rfl) px0 hr hgd ea_nil))))))))))⟩

end
/-! ### the law's feed -/
def feedD (cs : List D) (a l t : Int) : D := .dK [(.inr "cells", .lst cs), (.inr "at", .int a), (.inr "left", .int l), (.inr "turn", .int t)]
structure Feed (d : D) : Prop where
  ex : ∃ cs a l t, d = feedD cs a l t ∧ cs ≠ [] ∧ cs.length ≤ 100 ∧ ∀ x ∈ cs, ∃ i, x = .int i
section
variable (cs : List D) (a l t v : Int)
theorem fx_cells : ixD (feedD cs a l t) (.str "cells") = some (.lst cs) := rfl
theorem fx_at : ixD (feedD cs a l t) (.str "at") = some (.int a) := rfl
theorem fx_left : ixD (feedD cs a l t) (.str "left") = some (.int l) := rfl
theorem fx_turn : ixD (feedD cs a l t) (.str "turn") = some (.int t) := rfl
theorem fp_at : putD (feedD cs a l t) (.str "at") (.int v) = some (feedD cs v l t) := rfl
theorem fp_left : putD (feedD cs a l t) (.str "left") (.int v) = some (feedD cs a v t) := rfl
theorem fp_turn : putD (feedD cs a l t) (.str "turn") (.int v) = some (feedD cs a l v) := rfl
end
theorem atI_in {α : Type} {xs : List α} {i : Int} (h0 : 0 ≤ i) (h1 : i < xs.length) : ∃ x, atI xs i = some x ∧ x ∈ xs := by
  have e : i = ((i.toNat : Nat) : Int) := by omega
  have h : i.toNat < xs.length := by omega
  refine ⟨xs[i.toNat], ?_, List.getElem_mem h⟩
  have q := atI_nat (List.getElem?_eq_getElem h)
  rwa [← e] at q
theorem mulOkR {i j : Int} (h : -(2 ^ 64) < j ∧ j < 2 ^ 64) : mulOk i j = true := by
  unfold mulOk
  rw [decide_eq_true h, Bool.or_true, Bool.true_or]
theorem mulOkL {i j : Int} (h : -(2 ^ 64) < i ∧ i < 2 ^ 64) : mulOk i j = true := by
  unfold mulOk
  rw [decide_eq_true h, Bool.true_or, Bool.true_or]
theorem draw_ok {d : D} {n : Int} (hd : Feed d) (h0 : 0 < n) (h1 : n < 10 ^ 30) : ∃ r d', g__law_draw [d, .int n] = .ok (.int r) [some d'] ∧ Feed d' ∧ 0 ≤ r ∧ r < n := by
  obtain ⟨cs, a, l, t, rfl, hne, hlen, hint⟩ := hd.ex
  have hpos0 : 0 < cs.length := List.length_pos_iff.mpr hne
  have hpos : 0 < (cs.length : Int) := by omega
  obtain ⟨c, hc, cm⟩ := atI_in (xs := cs) (Int.emod_nonneg a (by omega)) (Int.emod_lt_of_pos a hpos)
  obtain ⟨ci, rfl⟩ := hint c cm
  have mk : ∀ a l t, Feed (feedD cs a l t) := fun a l t => ⟨cs, a, l, t, rfl, hne, hlen, hint⟩
  have hixc : ixD (.lst cs) (.int (a % (cs.length : Int))) = some (.int ci) := hc
  have hm : ∀ i j : Int, -(2 ^ 64) < j ∧ j < 2 ^ 64 → mulOk i j = true := fun i j h => mulOkR h
  have hm' : ∀ i j : Int, -(2 ^ 64) < i ∧ i < 2 ^ 64 → mulOk i j = true := fun i j h => mulOkL h
  have m1 := hm' 1013 (t + 1) (by decide)
  have m2 := hm (ci % 2147483629 + 1013 * (t + 1)) 48271 (by decide)
  have m3 := hm' 37 (t + 1) (by decide)
  have h1' : n < 1000000000000000000000000000000 := h1
  by_cases hl : l = 0
  · by_cases hb : ci < 1000000000000000000
    · let x := (ci % 2147483629 + 1013 * (t + 1)) * 48271 % 2147483647
      let y := (x / 13 + 37 * (t + 1)) * 69621 % 2147483587
      have m4 := hm (x / 13 + 37 * (t + 1)) 69621 (by decide)
      refine ⟨y / 7 % n, feedD cs (a + 1) l (t + 1), ?_, mk _ _ _, Int.emod_nonneg _ (by omega), Int.emod_lt_of_pos _ h0⟩
      simp only [x] at m4
      simp [g__law_draw, m__law_draw, fx_cells, fx_at, fx_left, fx_turn, fp_at, fp_left, fp_turn, lenD, hl, hpos0, hpos, hixc, hb, m1, m2, m3, m4, h0, h1, h1', x, y, R.noEx]
    · refine ⟨ci % n, feedD cs (a + 1) (ci / n) (t + 1), ?_, mk _ _ _, Int.emod_nonneg _ (by omega), Int.emod_lt_of_pos _ h0⟩
      simp [g__law_draw, m__law_draw, fx_cells, fx_at, fx_left, fx_turn, fp_at, fp_left, fp_turn, lenD, hl, hpos0, hpos, hixc, hb, h0, h1, h1', R.noEx]
  · refine ⟨l % n, feedD cs a (l / n) (t + 1), ?_, mk _ _ _, Int.emod_nonneg _ (by omega), Int.emod_lt_of_pos _ h0⟩
    simp [g__law_draw, m__law_draw, fx_cells, fx_at, fx_left, fx_turn, fp_at, fp_left, fp_turn, lenD, hl, h0, h1, h1', R.noEx]
theorem eq_nil (ms : List Int) : eqD (.scr ms) (.lst []) = some (.bl (decide (ms = []))) := by
  have h : eqOk (.scr ms) (.lst []) = true := by simp [eqOk, D.py, pyL, D.toPy, toPyL, PyData.depth, PyData.depthAll]
  have e : eqB (.scr ms) (.lst []) = some (eqv (.scr ms) (.lst [])) := by
    show (if eqOk (.scr ms) (.lst []) = true then some (eqv (.scr ms) (.lst [])) else none) = _
    rw [if_pos h]
  unfold eqD
  rw [e]
  unfold eqv
  rw [D.toPy, D.toPy, toPyL]
  cases ms with
  | nil => simp [PyData.eqv, PyData.eqvAll]
  | cons x r => simp [PyData.eqv, PyData.eqvAll]
theorem cut_len {α : Type} (xs : List α) (lo hi : Option Int) : (cutL xs lo hi).length ≤ xs.length := by
  unfold cutL
  rw [List.length_take, List.length_drop]
  omega
theorem feed_ok (ms : List Int) (hl : ms.length ≤ 63) : ∃ d ρ, g__law_feed [.scr ms] = .ok d ρ ∧ Feed d := by
  have hc := cut_len ms none (some 63)
  by_cases h : ms = []
  · subst h
    refine ⟨feedD [.int 0] 0 0 0, [], ?_, ⟨_, _, _, _, rfl, by simp, by simp, fun x m => ⟨0, by simpa using m⟩⟩⟩
    simp [g__law_feed, m__law_feed, cutD, cutL, listD, D.mem, intD, mulD, eq_nil, keyK, R.noEx]
    rfl
  · refine ⟨feedD ((cutL ms none (some 63)).map .int) 0 0 0, [], ?_, ⟨_, _, _, _, rfl, ?_, by rw [List.length_map]; omega, fun x m => ?_⟩⟩
    · simp [g__law_feed, m__law_feed, cutD, listD, D.mem, intD, mulD, eq_nil, keyK, R.noEx, h]
      rw [if_pos (by omega)]
      rfl
    · intro z
      have z2 : cutL ms none (some 63) = [] := List.map_eq_nil_iff.mp z
      have : (cutL ms none (some 63)).length = ms.length := by
        unfold cutL
        rw [List.length_take, List.length_drop]
        have e1 : HT.sIx ms.length 0 none = 0 := rfl
        have e2 : HT.sIx ms.length ms.length (some 63) = min 63 ms.length := HT.sIx_nat _ _ 63
        rw [e1, e2]
        omega
      rw [z2] at this
      exact h (List.length_eq_zero_iff.mp this.symm)
    · obtain ⟨i, _, e⟩ := List.mem_map.mp m
      exact ⟨i, e.symm⟩
theorem sat_draw {i : Nat} {n : Int} {ρ : DEnv} {a : MA} {d : D} {Q : D → DEnv → Prop} (hs : ρ[i]? = some (some d)) (hd : Feed d) (ha : a ρ = .ok [.int n] ρ) (h0 : 0 < n) (h1 : n < 10 ^ 30)
    (hQ : ∀ r d', 0 ≤ r → r < n → Feed d' → Q (.int r) (ρ.set i (some d'))) : Sat (mCall1 i 1 g__law_draw a ρ) Q := by
  obtain ⟨r, d', e, f, b0, b1⟩ := draw_ok hd h0 h1
  refine ⟨.int r, ρ.set i (some d'), ?_, hQ r d' b0 b1 f⟩
  rw [e_call1]
  simp only [e_own, hs, Option.bind_some, id, R.of_some, R.bind_ok, ha, List.length_singleton, if_true, e]
theorem sat_op2r {f : D → D → Option D} {a : MO} {m : ME} {ρ : DEnv} {d : D} {Q : D → DEnv → Prop} (ha : a ρ = .ok (.v d) ρ) (hm : Sat (m ρ) fun e ρ1 => ∃ z, f d e = some z ∧ Q z ρ1) : Sat (mOp2 f a (mV m) ρ) Q := by
  obtain ⟨e, ρ1, e1, z, e2, q⟩ := hm
  refine ⟨z, ρ1, ?_, q⟩
  simp [ha, e1, e2]
theorem asBls_map {α : Type} (g : α → Bool) : ∀ l : List α, asBls (l.map fun c => .bl (g c)) = some (l.map g)
  | [] => rfl
  | x :: l => by rw [List.map_cons, asBls, asBls_map g l]; rfl
theorem asInts_map {α : Type} (g : α → Int) : ∀ l : List α, asInts (l.map fun c => .int (g c)) = some (l.map g)
  | [] => rfl
  | x :: l => by rw [List.map_cons, asInts, asInts_map g l]; rfl
theorem str_len_append (x y : Str) : (x ++ y).length = x.length + y.length := by
  show (x.cps ++ y.cps).size = _
  rw [Array.size_append]; rfl
theorem cutS (x : Str) (lo hi : Option Int) : ∃ y : Str, cutD lo hi (.str x) = some (.str y) ∧ y.length ≤ x.length := ⟨_, rfl, by
  show (cutL x.cps.toList lo hi).toArray.size ≤ x.cps.size
  rw [List.size_toArray]
  have := cut_len x.cps.toList lo hi
  rwa [Array.length_toList] at this⟩
theorem ixS {x : Str} {i : Int} (h0 : 0 ≤ i) (h1 : i < x.length) : ∃ c ∈ x.cps.toList, ixD (.str x) (.int i) = some (.str ⟨#[c]⟩) := by
  obtain ⟨c, e, m⟩ := atI_in (xs := x.cps.toList) h0 (by rw [Array.length_toList]; exact h1)
  refine ⟨c, m, ?_⟩
  show (atI x.cps.toList i).bind _ = _
  rw [e]; rfl
@[simp] theorem ne_rp (p : PyData) : neD (.rp p) (.rp p) = some (.bl false) := by simp [neD, eqB]
theorem sat_loop {k : D → DEnv → Option DEnv} {body : MS} {ma : MA} {ds : List D} {ρ : DEnv} {Q : Fl → DEnv → Prop} (h : ma ρ = .ok ds ρ) (s : Sat (mFor k body ds ρ) Q) : Sat (mLoop k body ma ρ) Q := by
  rw [e_loop, h]; exact s
/-! ### what is drawn: specs of the law's drawing defs -/
def FS (g : List D → R D) (args : List D) (P : D → Prop) : Prop := ∀ d, Feed d → ∃ v d', g (d :: args) = .ok v [some d'] ∧ Feed d' ∧ P v
theorem fs_run {N : Nat} {m : MS} {args : List D} {P : D → Prop} (h : ∀ d, Feed d → Sat (m (some d :: args.map some ++ List.replicate (N - (args.length + 1)) none)) fun f ρ => ∃ v d', f = .rt v ∧ ρ.take 1 = [some d'] ∧ Feed d' ∧ P v) :
    FS (fun ds => (runF N 1 m ds).noEx) args P := fun d fd => by
  obtain ⟨f, ρ, e, v, d', rfl, e2, fd', hp⟩ := h d fd
  refine ⟨v, d', ?_, fd', hp⟩
  have e3 : m ((d :: args).map some ++ List.replicate (N - (d :: args).length) none) = .ok (.rt v) ρ := e
  show (runF N 1 m (d :: args)).noEx = _
  rw [e_run, e3, e_fin2, e2]; rfl
theorem sat_cons {m : ME} {t : MA} {ρ : DEnv} {Q : List D → DEnv → Prop} (h : Sat (m ρ) fun d ρ1 => Sat (t ρ1) fun ds ρ2 => Q (d :: ds) ρ2) : Sat (mCons m t ρ) Q := by
  obtain ⟨d, ρ1, e1, ds, ρ2, e2, q⟩ := h
  exact ⟨_, _, by rw [e_cons, e1, R.bind_ok, e2, R.bind_ok], q⟩
theorem sat_nil {ρ : DEnv} {Q : List D → DEnv → Prop} (h : Q [] ρ) : Sat (mNil ρ) Q := ⟨_, _, rfl, h⟩
theorem mem_range {lo : Int} {n : Nat} {d : D} (h : d ∈ rangeD lo n) : ∃ i : Nat, i < n ∧ d = .int (lo + i) := by
  obtain ⟨i, m, rfl⟩ := List.mem_map.mp h
  exact ⟨i, List.mem_range.mp m, rfl⟩
theorem len_range (lo : Int) (n : Nat) : (rangeD lo n).length = n := by unfold rangeD; rw [List.length_map, List.length_range]
theorem asStrs_some : ∀ {l : List D} {xs : List Str}, asStrs l = some xs → l = xs.map .str
  | [], _, e => by cases e; rfl
  | d :: l, xs, e => by
    cases d with
    | str x =>
      unfold asStrs at e
      cases q : asStrs l with
      | none => rw [q] at e; cases e
      | some t => rw [q] at e; cases e; rw [asStrs_some q]; rfl
    | _ => cases e
theorem cut_from {α : Type} (xs : List α) {t : Int} (h : 0 ≤ t) : cutL xs (some t) none = xs.drop t.toNat := by
  unfold cutL
  have e1 : HT.sIx xs.length 0 (some t) = min t.toNat xs.length := by
    show (if t < 0 then (t + (xs.length : Int)).toNat else min t.toNat xs.length) = _
    rw [if_neg (by omega)]
  have e2 : HT.sIx xs.length xs.length none = xs.length := rfl
  rw [e1, e2]
  by_cases q : t.toNat ≤ xs.length
  · rw [Nat.min_eq_left q, List.take_of_length_le (by rw [List.length_drop]; omega)]
  · rw [Nat.min_eq_right (by omega), List.drop_of_length_le (Nat.le_refl _), List.drop_of_length_le (by omega), List.take_nil]
theorem cut_to {α : Type} (xs : List α) {t : Int} (h : 0 ≤ t) : cutL xs none (some t) = xs.take t.toNat := by
  unfold cutL
  have e1 : HT.sIx xs.length 0 none = 0 := rfl
  have e2 : HT.sIx xs.length xs.length (some t) = min t.toNat xs.length := by
    show (if t < 0 then (t + (xs.length : Int)).toNat else min t.toNat xs.length) = _
    rw [if_neg (by omega)]
  rw [e1, e2, List.drop_zero, Nat.sub_zero]
  by_cases q : t.toNat ≤ xs.length
  · rw [Nat.min_eq_left q]
  · rw [Nat.min_eq_right (by omega), List.take_of_length_le (Nat.le_refl _), List.take_of_length_le (by omega)]
@[simp] theorem d_cutL (lo hi : Option Int) (ds : List D) : cutD lo hi (.lst ds) = some (.lst (cutL ds lo hi)) := rfl
@[simp] theorem d_cutT (lo hi : Option Int) (ds : List D) : cutD lo hi (.tup ds) = some (.tup (cutL ds lo hi)) := rfl

/-! ### names -/
def goodB (x : Str) : Bool := decide (1 ≤ x.length) && decide (x.length ≤ 8) && x.cps.toList.all fun c => decide (97 ≤ c) && decide (c ≤ 122)
structure GoodNs (xs : List Str) : Prop where
  nd : xs.Nodup
  all : ∀ x ∈ xs, goodB x = true
  zz : ("zzz" : Str) ∉ xs
def baseB (xs : List Str) : Bool := decide (xs.length = 10) && decide xs.Nodup && xs.all goodB && !decide (("zzz" : Str) ∈ xs)
theorem baseE {xs : List Str} (h : baseB xs = true) : xs.length = 10 ∧ GoodNs xs := by
  unfold baseB at h
  rw [Bool.and_eq_true, Bool.and_eq_true, Bool.and_eq_true, decide_eq_true_eq, decide_eq_true_eq, List.all_eq_true, Bool.not_eq_true', decide_eq_false_iff_not] at h
  exact ⟨h.1.1.1, h.1.1.2, h.1.2, h.2⟩
theorem GoodNs.sub {xs ys : List Str} (h : GoodNs xs) (s : ys.Sublist xs) : GoodNs ys := ⟨h.nd.sublist s, fun x m => h.all x (s.subset m), fun m => h.zz (s.subset m)⟩
theorem GoodNs.perm {xs ys : List Str} (h : GoodNs xs) (s : ys.Perm xs) : GoodNs ys := ⟨s.nodup_iff.mpr h.nd, fun x m => h.all x (s.subset m), fun m => h.zz (s.subset m)⟩
def LLs : List Nat := [97, 98, 99, 100, 101, 102, 103, 104, 105, 106, 107, 108, 109, 110, 111, 112, 113, 114, 115, 116, 117, 118, 119, 120, 121, 122, 97, 98, 99, 100, 101, 102, 103, 104, 105, 106, 107, 108, 109, 110, 111, 112, 113, 114, 115, 116, 117, 118, 119, 120, 121, 122]
def LL : Str := ⟨LLs.toArray⟩
theorem LL_eq : repS "abcdefghijklmnopqrstuvwxyz" 2 = LL := by decide +kernel
def chk (l : List D) : Bool := match asStrs l with
  | some xs => baseB xs
  | none => false
theorem chkE {l : List D} (h : chk l = true) : ∃ xs, l = xs.map .str ∧ xs.length = 10 ∧ GoodNs xs := by
  unfold chk at h
  split at h
  · rename_i xs e
    obtain ⟨a, b⟩ := baseE h
    exact ⟨xs, asStrs_some e, a, b⟩
  · cases h
def f0 (s : Int) : D → D
  | .int k => (cutD (some s) (some (s + 1 + k)) (.str LL)).getD .non
  | _ => .non
def ixL (i : Int) : D := (ixD (.str LL) (.int i)).getD .non
def n0 (s : Int) : List D := (rangeD 0 8).map (f0 s) ++ [ixL (s + 9), ixL (s + 10)]
def cutX (lo hi : Int) : Str := ⟨(cutL LLs (some lo) (some hi)).toArray⟩
def f1 (s z a : Int) : D → D
  | .int k => .str (cutX s (s + a) ++ ((atI LLs (s + 5 * k % 26)).elim Str.empty fun c => ⟨#[c]⟩) ++ cutX (s + a + 1) (s + z))
  | _ => .non
def n1 (s z a : Int) : List D := (rangeD 0 10).map (f1 s z a)
def f2 (s : Int) : D → D
  | .int k => .str (cutX (s + k) (s + k + 1 + 3 * k % 8))
  | _ => .non
def n2 (s : Int) : List D := (rangeD 0 10).map (f2 s)
def n3 : List D := [.str "names", .str "ahead", .str "name", .str "a", .str "ab", .str "aheads", .str "last", .str "ask", .str "row", .str "end"]
theorem chk0 : ∀ s : Nat, s < 26 → chk (n0 s) = true := by decide +kernel
theorem cut_mid {α : Type} (xs : List α) {lo hi : Int} (h0 : 0 ≤ lo) (h1 : lo ≤ hi) (h2 : hi ≤ xs.length) : cutL xs (some lo) (some hi) = (xs.drop lo.toNat).take (hi.toNat - lo.toNat) := by
  unfold cutL
  have e1 : HT.sIx xs.length 0 (some lo) = lo.toNat := by
    show (if lo < 0 then (lo + (xs.length : Int)).toNat else min lo.toNat xs.length) = _
    rw [if_neg (by omega)]; omega
  have e2 : HT.sIx xs.length xs.length (some hi) = hi.toNat := by
    show (if hi < 0 then (hi + (xs.length : Int)).toNat else min hi.toNat xs.length) = _
    rw [if_neg (by omega)]; omega
  rw [e1, e2]
theorem low_LLs : ∀ c ∈ LLs, 97 ≤ c ∧ c ≤ 122 := by decide
def c1 (s k : Nat) : Nat := LLs.getD (s + 5 * k % 26) 0
theorem c1_nd : ∀ s : Nat, s < 26 → ((List.range 10).map (c1 s)).Nodup := by decide +kernel
theorem len_LLs : LLs.length = 52 := by decide
def zzzL : List Nat := [122, 122, 122]
theorem no_zzz : ∀ s : Nat, s < 26 → ∀ a : Nat, a < 3 → ∀ k : Nat, k < 10 → ¬ ((LLs.drop s).take a ++ [c1 s k] ++ (LLs.drop (s + a + 1)).take (3 - a - 1) = zzzL) := by decide +kernel
theorem names1 {s z a : Nat} (hs : s < 26) (hz : z < 9) (ha : a < z) : ∃ xs, n1 s z a = xs.map .str ∧ xs.length = 10 ∧ GoodNs xs := by
  have eh : (cutX s ((s : Int) + a)).cps.toList = (LLs.drop s).take a := by
    show (cutL LLs (some (s : Int)) (some ((s : Int) + a))).toArray.toList = _
    have h1 : ((s : Int)).toNat = s := by omega
    have h2 : ((s : Int) + a).toNat - s = a := by omega
    rw [List.toList_toArray, cut_mid LLs (by omega) (by omega) (by rw [len_LLs]; omega), h1, h2]
  have et : (cutX ((s : Int) + a + 1) ((s : Int) + z)).cps.toList = (LLs.drop (s + a + 1)).take (z - a - 1) := by
    show (cutL LLs (some ((s : Int) + a + 1)) (some ((s : Int) + z))).toArray.toList = _
    have h1 : ((s : Int) + a + 1).toNat = s + a + 1 := by omega
    have h2 : ((s : Int) + z).toNat - (s + a + 1) = z - a - 1 := by omega
    rw [List.toList_toArray, cut_mid LLs (by omega) (by omega) (by rw [len_LLs]; omega), h1, h2]
  let nm : Nat → Str := fun k => cutX s ((s : Int) + a) ++ ⟨#[c1 s k]⟩ ++ cutX ((s : Int) + a + 1) ((s : Int) + z)
  have tl : ∀ k, (nm k).cps.toList = (LLs.drop s).take a ++ [c1 s k] ++ (LLs.drop (s + a + 1)).take (z - a - 1) := fun k => by
    show (((cutX s ((s : Int) + a)).cps ++ #[c1 s k]) ++ (cutX ((s : Int) + a + 1) ((s : Int) + z)).cps).toList = _
    rw [Array.toList_append, Array.toList_append, eh, et]
  have ix : ∀ k, k < 10 → s + 5 * k % 26 < 52 := fun k hk => by omega
  refine ⟨(List.range 10).map nm, ?_, by simp, ?_, ?_, ?_⟩
  · unfold n1 rangeD
    have e10 : (10 : Nat) = 10 := rfl
    rw [List.map_map, List.map_map]
    refine List.map_congr_left fun k hk => ?_
    have hk := List.mem_range.mp hk
    show f1 s z a (.int (0 + (k : Int))) = .str (nm k)
    have ea : atI LLs ((s : Int) + 5 * (0 + (k : Int)) % 26) = some (c1 s k) := by
      have e : (s : Int) + 5 * (0 + (k : Int)) % 26 = ((s + 5 * k % 26 : Nat) : Int) := by omega
      rw [e]
      have h := ix k hk
      rw [atI_nat (v := c1 s k)]
      unfold c1
      rw [List.getD_eq_getElem?_getD, List.getElem?_eq_getElem (by rw [len_LLs]; exact h)]
      rfl
    show D.str (cutX s ((s : Int) + a) ++ ((atI LLs ((s : Int) + 5 * (0 + (k : Int)) % 26)).elim Str.empty fun c => ⟨#[c]⟩) ++ cutX ((s : Int) + a + 1) ((s : Int) + z)) = _
    rw [ea]
    rfl
  · have nd := c1_nd s hs
    rw [List.nodup_iff_pairwise_ne, List.pairwise_map] at nd ⊢
    refine nd.imp fun {i j} h e => h ?_
    have e2 : (nm i).cps.toList = (nm j).cps.toList := congrArg (fun x : Str => x.cps.toList) e
    rw [tl, tl] at e2
    have e3 := List.append_cancel_right e2
    have e4 := List.append_cancel_left e3
    exact (List.cons.inj e4).1
  · intro x hx
    obtain ⟨k, hk, rfl⟩ := List.mem_map.mp hx
    have hk := List.mem_range.mp hk
    have hl : (nm k).length = z := by
      show (nm k).cps.size = z
      rw [← Array.length_toList, tl]
      simp only [List.length_append, List.length_take, List.length_drop, len_LLs, List.length_singleton]
      omega
    unfold goodB
    rw [hl, decide_eq_true (by omega : 1 ≤ z), decide_eq_true (by omega : z ≤ 8), Bool.true_and, Bool.true_and, List.all_eq_true]
    intro c hc
    have : c ∈ LLs := by
      rw [tl] at hc
      rcases List.mem_append.mp hc with hc | hc
      · rcases List.mem_append.mp hc with hc | hc
        · exact List.mem_of_mem_drop (List.mem_of_mem_take hc)
        · cases List.mem_singleton.mp hc
          unfold c1
          rw [List.getD_eq_getElem?_getD, List.getElem?_eq_getElem (by rw [len_LLs]; exact ix k hk)]
          exact List.getElem_mem _
      · exact List.mem_of_mem_drop (List.mem_of_mem_take hc)
    obtain ⟨a1, a2⟩ := low_LLs c this
    rw [decide_eq_true a1, decide_eq_true a2]; rfl
  · intro m
    obtain ⟨k, hk, e⟩ := List.mem_map.mp m
    have hk := List.mem_range.mp hk
    have e2 : (nm k).cps.toList = zzzL := by rw [e]; rfl
    have e3 := tl k
    rw [e2] at e3
    have l := congrArg List.length e3
    simp only [List.length_append, List.length_take, List.length_drop, len_LLs, List.length_singleton, zzzL, List.length_cons, List.length_nil] at l
    have z3 : z = 3 := by omega
    subst z3
    exact no_zzz s hs a (by omega) k hk e3.symm
theorem chk2 : ∀ s : Nat, s < 26 → chk (n2 s) = true := by decide +kernel
theorem chk3 : chk n3 = true := by decide +kernel

abbrev Nn (d : D) (m : Int) (s w z a : Option D) (ns h t u k : Option D) : DEnv := [some d, some (.int m), some (.str LL), s, w, z, a, ns, h, t, u, k]
theorem sat_ifT {c : MT} {m n : MS} {ρ : DEnv} {Q : Fl → DEnv → Prop} (h : c ρ = .ok true ρ) (k : Sat (m ρ) Q) : Sat (mIfS c m n ρ) Q := sat_ifS ⟨true, ρ, h, k⟩
theorem sat_ifF {c : MT} {m n : MS} {ρ : DEnv} {Q : Fl → DEnv → Prop} (h : c ρ = .ok false ρ) (k : Sat (n ρ) Q) : Sat (mIfS c m n ρ) Q := sat_ifS ⟨false, ρ, h, (show (if false = true then Sat (m ρ) Q else Sat (n ρ) Q) from by rw [if_neg Bool.false_ne_true]; exact k)⟩
theorem sat_skip {c : MT} {m n : MS} {ρ : DEnv} {Q : Fl → DEnv → Prop} (h : c ρ = .ok false ρ) (k : Sat (n ρ) Q) : Sat (mSeq (mIfS c m mNx) n ρ) Q := sat_seq (sat_ifF h (sat_of rfl ⟨rfl, k⟩))
abbrev mNamesTail : MS := mSeq (mSet 10 (mCall1 0 1 g__law_draw (mCons (mC (.int 10)) mNil)))
  (mSeq (mSet 7 (mOp2 addD (mV (mSl cutD (mV (mVar 7)) (mPart (mVar 10)) mNoPart)) (mV (mSl cutD (mV (mVar 7)) mNoPart (mPart (mVar 10))))))
  (mRet (mOp2 stepD (mV (mSl cutD (mV (mVar 7)) mNoPart (mPart (mVar 1)))) (mV (mOp2 ixD (mV (mLst (mCons (mC (.int 1)) (mCons (mOp1 negD (mV (mC (.int 1)))) mNil)))) (mV (mCall1 0 1 g__law_draw (mCons (mC (.int 2)) mNil))))))))
theorem tail_ok {d : D} {m : Int} {s w z a h t u k : Option D} {xs : List Str} (fd : Feed d) (h0 : 0 ≤ m) (h1 : m ≤ 10) (hx : xs.length = 10) (hg : GoodNs xs) :
    Sat (mNamesTail (Nn d m s w z a (some (.lst (xs.map .str))) h t u k)) fun f ρ => ∃ v d', f = .rt v ∧ ρ.take 1 = [some d'] ∧ Feed d' ∧ ∃ xs : List Str, v = .lst (xs.map .str) ∧ xs.length = m.toNat ∧ GoodNs xs := by
  refine sat_seq (sat_set (sat_draw (d := d) rfl fd rfl (by decide) (by decide) fun q d1 q0 q1 fd1 => ⟨rfl, ?_⟩))
  change Sat (mSeq _ _ (Nn d1 m s w z a (some (.lst (xs.map .str))) h t (some (.int q)) k)) _
  let ys := xs.drop q.toNat ++ xs.take q.toNat
  have pm : ys.Perm xs := List.perm_append_comm.trans (by rw [List.take_append_drop])
  have hy : ys.length = 10 := pm.length_eq.trans hx
  have e1 : cutL (xs.map D.str) (some q) none = (xs.drop q.toNat).map D.str := by rw [cut_from _ q0, List.map_drop]
  have e2 : cutL (xs.map D.str) none (some q) = (xs.take q.toNat).map D.str := by rw [cut_to _ q0, List.map_take]
  refine sat_seq (sat_set (sat_of (a := .lst (ys.map .str)) (ρ := Nn d1 m s w z a (some (.lst (xs.map .str))) h t (some (.int q)) k) (by
    have hl : (xs.drop q.toNat).length + (xs.take q.toNat).length ≤ 16777216 := by rw [List.length_drop, List.length_take]; omega
    have hl' : xs.length - q.toNat + min q.toNat xs.length ≤ 16777216 := by omega
    simp [e1, e2, hl', ys]) ⟨rfl, ?_⟩))
  change Sat (mRet _ (Nn d1 m s w z a (some (.lst (ys.map .str))) h t (some (.int q)) k)) _
  have e3 : cutL (ys.map D.str) none (some m) = (ys.take m.toNat).map D.str := by rw [cut_to _ h0, List.map_take]
  refine sat_ret (sat_op2r (d := .lst ((ys.take m.toNat).map .str)) (by simp [e3]) (sat_op2r (d := .lst [.int 1, .int (-1)]) (by simp [negD]) (sat_draw (d := d1) rfl fd1 rfl (by decide) (by decide) fun r d2 r0 r1 fd2 => ?_)))
  have hr : r = 0 ∨ r = 1 := by omega
  have gt : GoodNs (ys.take m.toNat) := (hg.perm pm).sub (List.take_sublist _ _)
  have lt : (ys.take m.toNat).length = m.toNat := by rw [List.length_take, hy]; omega
  rcases hr with rfl | rfl
  · exact ⟨.int 1, rfl, .lst ((ys.take m.toNat).map .str), rfl, _, d2, rfl, rfl, fd2, _, rfl, lt, gt⟩
  · exact ⟨.int (-1), rfl, .lst ((ys.take m.toNat).map .str).reverse, rfl, _, d2, rfl, rfl, fd2, (ys.take m.toNat).reverse, by rw [List.map_reverse], by rw [List.length_reverse]; exact lt, gt.perm (List.reverse_perm _)⟩
theorem ixL_eq {i : Int} (h0 : 0 ≤ i) (h1 : i < 52) : ixD (.str LL) (.int i) = some (ixL i) := by
  obtain ⟨c, _, e⟩ := ixS (x := LL) h0 (show i < 52 from h1)
  unfold ixL
  rw [e]; rfl
theorem names_ok {m : Int} (h0 : 0 ≤ m) (h1 : m ≤ 10) : FS g__law_names [.int m] fun v => ∃ xs : List Str, v = .lst (xs.map .str) ∧ xs.length = m.toNat ∧ GoodNs xs := by
  refine fs_run (m := m__law_names) (N := 12) fun d fd => ?_
  unfold m__law_names
  refine sat_seq (sat_set (sat_of (a := .str LL) (ρ := [some d, some (.int m)] ++ List.replicate 10 none) (by rw [← LL_eq]; rfl) ⟨rfl, ?_⟩))
  refine sat_seq (sat_set (sat_draw (d := d) rfl fd rfl (by decide) (by decide) fun s d1 s0 s1 fd1 => ⟨rfl, ?_⟩))
  refine sat_seq (sat_set (sat_draw (d := d1) rfl fd1 rfl (by decide) (by decide) fun w d2 w0 w1 fd2 => ⟨rfl, ?_⟩))
  refine sat_seq (sat_set (sat_op2r (d := .int 1) rfl (sat_draw (d := d2) rfl fd2 rfl (by decide) (by decide) fun z d3 z0 z1 fd3 => ⟨_, rfl, rfl, ?_⟩)))
  refine sat_seq (sat_set (sat_draw (d := d3) (n := 1 + z) rfl fd3 rfl (by omega) (by omega) fun a d4 a0 a1 fd4 => ⟨rfl, ?_⟩))
  obtain ⟨s, rfl⟩ := Int.eq_ofNat_of_zero_le s0
  obtain ⟨z, rfl⟩ := Int.eq_ofNat_of_zero_le z0
  obtain ⟨a, rfl⟩ := Int.eq_ofNat_of_zero_le a0
  have ez : (1 : Int) + (z : Int) = ((z + 1 : Nat) : Int) := by omega
  rw [ez] at a1 ⊢
  have hs : s < 26 := by omega
  have hz : z + 1 < 9 := by omega
  have ha : a < z + 1 := by omega
  generalize z + 1 = z' at a1 hz ha ⊢
  refine sat_seq (sat_set (sat_of (a := .lst n3) (ρ := Nn d4 m (some (.int s)) (some (.int w)) (some (.int z')) (some (.int a)) none none none none none) rfl ⟨rfl, ?_⟩))
  change Sat (mSeq _ _ (Nn d4 m (some (.int s)) (some (.int w)) (some (.int z')) (some (.int a)) (some (.lst n3)) none none none none)) _
  have test : ∀ (j : Int) (ns h t k : Option D), mTest (mOp2 eqD (mV (mVar 4)) (mV (mC (.int j)))) (Nn d4 m (some (.int s)) (some (.int w)) (some (.int z')) (some (.int a)) ns h t none k) = .ok (decide (w = j)) (Nn d4 m (some (.int s)) (some (.int w)) (some (.int z')) (some (.int a)) ns h t none k) := fun j ns h t k => by simp
  have hw : w = 0 ∨ w = 1 ∨ w = 2 ∨ w = 3 := by omega
  have ixe : ∀ i : Int, 0 ≤ i → i < 52 → ixD (.str LL) (.int i) = some (ixL i) := fun i p q => ixL_eq p q
  rcases hw with rfl | rfl | rfl | rfl
  · -- beginnings
    obtain ⟨xs, ex, lx, gx⟩ := chkE (chk0 s hs)
    refine sat_seq (sat_ifT (test 0 _ _ _ _) (sat_set (sat_of (a := .lst (n0 s)) (ρ := Nn d4 m (some (.int s)) (some (.int 0)) (some (.int z')) (some (.int a)) (some (.lst n3)) none none none none) ?_ ⟨rfl, ?_⟩)))
    · have lc := mLc_one (ma := mR1 (mCons (mC (.int 8)) mNil)) (elt := mSl cutD (mV (mVar 2)) (mPart (mVar 3)) (mPart (mOp2 addD (mV (mOp2 addD (mV (mVar 3)) (mV (mC (.int 1))))) (mV (mVar 11))))) (i := 11) (ρ := Nn d4 m (some (.int s)) (some (.int 0)) (some (.int z')) (some (.int a)) (some (.lst n3)) none none none none) (ds := rangeD 0 8) (f0 s) rfl (by rw [len_range]; decide) (by simp) (fun e me => by
        obtain ⟨i, _, rfl⟩ := mem_range me
        simp [f0]
        rfl)
      have i1 := ixe ((s : Int) + 9) (by omega) (by omega)
      have i2 := ixe ((s : Int) + 10) (by omega) (by omega)
      simp [lc, i1, i2, n0, len_range]
    · rw [ex]
      exact sat_skip (test 1 _ _ _ _) (sat_skip (test 2 _ _ _ _) (tail_ok fd4 h0 h1 lx gx))
  · -- alike but for a sign
    obtain ⟨xs, ex, lx, gx⟩ := names1 hs hz ha
    refine sat_skip (test 0 _ _ _ _) (sat_seq (sat_ifT (test 1 _ _ _ _) ?_))
    have le : (s : Int) + a ≤ 52 := by omega
    refine sat_seq (sat_set (sat_of (a := .str (cutX s ((s : Int) + a))) (ρ := Nn d4 m (some (.int s)) (some (.int 1)) (some (.int z')) (some (.int a)) (some (.lst n3)) none none none none) (by simp; rfl) ⟨rfl, ?_⟩))
    refine sat_seq (sat_set (sat_of (a := .str (cutX ((s : Int) + a + 1) ((s : Int) + z'))) (ρ := Nn d4 m (some (.int s)) (some (.int 1)) (some (.int z')) (some (.int a)) (some (.lst n3)) (some (.str (cutX s ((s : Int) + a)))) none none none) (by simp; rfl) ⟨rfl, ?_⟩))
    refine sat_set (sat_of (a := .lst (n1 s z' a)) (ρ := Nn d4 m (some (.int s)) (some (.int 1)) (some (.int z')) (some (.int a)) (some (.lst n3)) (some (.str (cutX s ((s : Int) + a)))) (some (.str (cutX ((s : Int) + a + 1) ((s : Int) + z')))) none none) ?_ ⟨rfl, ?_⟩)
    · refine mLc_one (ds := rangeD 0 10) (f1 s z' a) rfl (by rw [len_range]; decide) (by simp) (fun e me => ?_)
      obtain ⟨i, hi, rfl⟩ := mem_range me
      have mo : mulOk 5 (0 + (i : Int)) = true := mulOkL (by decide)
      have mo' : mulOk 5 (i : Int) = true := mulOkL (by decide)
      have bd : (s : Int) + 5 * (i : Int) % 26 < 52 := by omega
      obtain ⟨c, e1, _⟩ := atI_in (xs := LLs) (i := (s : Int) + 5 * (i : Int) % 26) (by omega) (by rw [len_LLs]; exact bd)
      have e2 : ixD (.str LL) (.int ((s : Int) + 5 * (i : Int) % 26)) = some (.str ⟨#[c]⟩) := by
        show (atI LLs _).bind _ = _
        rw [e1]; rfl
      have lh : ∀ lo hi : Int, (cutX lo hi).length ≤ 52 := fun lo hi => by
        show (cutL LLs (some lo) (some hi)).toArray.size ≤ 52
        rw [List.size_toArray]
        exact Nat.le_trans (cut_len _ _ _) (Nat.le_of_eq len_LLs)
      have l1 := lh s ((s : Int) + a)
      have l2 := lh ((s : Int) + a + 1) ((s : Int) + z')
      have l3 : (cutX s ((s : Int) + a)).length + (⟨#[c]⟩ : Str).length ≤ 16777216 := by
        have : (⟨#[c]⟩ : Str).length = 1 := rfl
        omega
      have l4 : (cutX s ((s : Int) + a) ++ (⟨#[c]⟩ : Str)).length + (cutX ((s : Int) + a + 1) ((s : Int) + z')).length ≤ 16777216 := by
        have : (⟨#[c]⟩ : Str).length = 1 := rfl
        rw [str_len_append]; omega
      simp [mo, mo', e2, l3, l4, f1, e1]
    · show Sat (mSeq _ _ (Nn d4 m (some (.int s)) (some (.int 1)) (some (.int z')) (some (.int a)) (some (.lst (n1 s z' a))) (some (.str (cutX s ((s : Int) + a)))) (some (.str (cutX ((s : Int) + a + 1) ((s : Int) + z')))) none none)) _
      rw [ex]
      exact sat_skip (test 2 _ _ _ _) (tail_ok fd4 h0 h1 lx gx)
  · -- parts of all lengths
    obtain ⟨xs, ex, lx, gx⟩ := chkE (chk2 s hs)
    refine sat_skip (test 0 _ _ _ _) (sat_skip (test 1 _ _ _ _) (sat_seq (sat_ifT (test 2 _ _ _ _) (sat_set (sat_of (a := .lst (n2 s)) (ρ := Nn d4 m (some (.int s)) (some (.int 2)) (some (.int z')) (some (.int a)) (some (.lst n3)) none none none none) ?_ ⟨rfl, ?_⟩)))))
    · refine mLc_one (ds := rangeD 0 10) (f2 s) rfl (by rw [len_range]; decide) (by simp) (fun e me => ?_)
      obtain ⟨i, hi, rfl⟩ := mem_range me
      have mo' : mulOk 3 (i : Int) = true := mulOkL (by decide)
      simp [mo', f2]
      rfl
    · rw [ex]
      exact tail_ok fd4 h0 h1 lx gx
  · obtain ⟨xs, ex, lx, gx⟩ := chkE chk3
    rw [ex]
    exact sat_skip (test 0 _ _ _ _) (sat_skip (test 1 _ _ _ _) (sat_skip (test 2 _ _ _ _) (tail_ok fd4 h0 h1 lx gx)))
theorem sat_mtL {i : Nat} {f : List D → List D → Option (D × List D)} {args : MA} {ρ : DEnv} {ds0 : List D} {Q : D → DEnv → Prop} (h0 : ρ[i]? = some (some (.lst ds0)))
    (ha : Sat (args ρ) fun es ρ1 => ∃ ds z ds', ρ1[i]? = some (some (.lst ds)) ∧ f ds es = some (z, ds') ∧ Q z (ρ1.set i (some (.lst ds')))) : Sat (mMtL i f args ρ) Q := by
  obtain ⟨es, ρ1, e1, ds, z, ds', e2, e3, q⟩ := ha
  refine ⟨z, _, ?_, q⟩
  rw [e_mtL]
  simp only [e_own, h0, Option.bind_some, id, e1, R.bind_ok, e2, e3]
theorem append_ok {ds : List D} {d : D} (h : ds.length < 16777216) : appendD ds [d] = some (.non, ds ++ [d]) := if_pos h
/-! ### equality of plain data -/
mutual
def D.pln : D → Bool
  | .int _ => true | .str _ => true | .tup xs => plnL xs | .lst xs => plnL xs
  | _ => false
def plnL : List D → Bool
  | [] => true
  | d :: ds => d.pln && plnL ds
end
mutual
theorem pln_py : ∀ d : D, d.pln = true → d.py = true
  | .int _, _ => by rw [D.py]
  | .str _, _ => by rw [D.py]
  | .tup xs, h => by rw [D.pln] at h; rw [D.py]; exact plnL_py xs h
  | .lst xs, h => by rw [D.pln] at h; rw [D.py]; exact plnL_py xs h
  | .non, h => by rw [D.pln] at h <;> first | cases h | (intros; contradiction)
  | .bl _, h => by rw [D.pln] at h <;> first | cases h | (intros; contradiction)
  | .dK _, h => by rw [D.pln] at h <;> first | cases h | (intros; contradiction)
  | .dT _, h => by rw [D.pln] at h <;> first | cases h | (intros; contradiction)
  | .ob _ _, h => by rw [D.pln] at h <;> first | cases h | (intros; contradiction)
  | .fin _ _, h => by rw [D.pln] at h <;> first | cases h | (intros; contradiction)
  | .scr _, h => by rw [D.pln] at h <;> first | cases h | (intros; contradiction)
  | .rp _, h => by rw [D.pln] at h <;> first | cases h | (intros; contradiction)
  | .ty _, h => by rw [D.pln] at h <;> first | cases h | (intros; contradiction)
theorem plnL_py : ∀ xs : List D, plnL xs = true → pyL xs = true
  | [], _ => by rw [pyL]
  | d :: ds, h => by
    rw [plnL, Bool.and_eq_true] at h
    rw [pyL, Bool.and_eq_true]
    exact ⟨pln_py d h.1, plnL_py ds h.2⟩
end
mutual
theorem eqv_iff : ∀ d e : D, d.pln = true → e.pln = true → (PyData.eqv d.toPy e.toPy = true ↔ d = e)
  | .int i, .int j, _, _ => by rw [D.toPy, D.toPy, PyData.eqv]; simp
  | .str i, .str j, _, _ => by rw [D.toPy, D.toPy, PyData.eqv]; simp
  | .int i, .str j, _, _ => by rw [D.toPy, D.toPy, PyData.eqv]; simp
  | .str i, .int j, _, _ => by rw [D.toPy, D.toPy, PyData.eqv]; simp
  | .int i, .tup j, _, _ => by rw [D.toPy, D.toPy, PyData.eqv]; simp
  | .int i, .lst j, _, _ => by rw [D.toPy, D.toPy, PyData.eqv]; simp
  | .str i, .tup j, _, _ => by rw [D.toPy, D.toPy, PyData.eqv]; simp
  | .str i, .lst j, _, _ => by rw [D.toPy, D.toPy, PyData.eqv]; simp
  | .tup i, .int j, _, _ => by rw [D.toPy, D.toPy, PyData.eqv]; simp
  | .tup i, .str j, _, _ => by rw [D.toPy, D.toPy, PyData.eqv]; simp
  | .lst i, .int j, _, _ => by rw [D.toPy, D.toPy, PyData.eqv]; simp
  | .lst i, .str j, _, _ => by rw [D.toPy, D.toPy, PyData.eqv]; simp
  | .tup i, .lst j, _, _ => by rw [D.toPy, D.toPy, PyData.eqv]; simp
  | .lst i, .tup j, _, _ => by rw [D.toPy, D.toPy, PyData.eqv]; simp
  | .tup i, .tup j, h, k => by
    rw [D.pln] at h k
    rw [D.toPy, D.toPy, PyData.eqv, eqvL_iff i j h k]
    constructor
    · rintro rfl; rfl
    · intro e; exact D.tup.inj e
  | .lst i, .lst j, h, k => by
    rw [D.pln] at h k
    rw [D.toPy, D.toPy, PyData.eqv, eqvL_iff i j h k]
    constructor
    · rintro rfl; rfl
    · intro e; exact D.lst.inj e
  | .non, _, h, _ => by simp [D.pln] at h
  | .bl _, _, h, _ => by simp [D.pln] at h
  | .dK _, _, h, _ => by simp [D.pln] at h
  | .dT _, _, h, _ => by simp [D.pln] at h
  | .ob _ _, _, h, _ => by simp [D.pln] at h
  | .fin _ _, _, h, _ => by simp [D.pln] at h
  | .scr _, _, h, _ => by simp [D.pln] at h
  | .rp _, _, h, _ => by simp [D.pln] at h
  | .ty _, _, h, _ => by simp [D.pln] at h
  | _, .non, _, h => by simp [D.pln] at h
  | _, .bl _, _, h => by simp [D.pln] at h
  | _, .dK _, _, h => by simp [D.pln] at h
  | _, .dT _, _, h => by simp [D.pln] at h
  | _, .ob _ _, _, h => by simp [D.pln] at h
  | _, .fin _ _, _, h => by simp [D.pln] at h
  | _, .scr _, _, h => by simp [D.pln] at h
  | _, .rp _, _, h => by simp [D.pln] at h
  | _, .ty _, _, h => by simp [D.pln] at h
theorem eqvL_iff : ∀ xs ys : List D, plnL xs = true → plnL ys = true → (PyData.eqvAll (toPyL xs) (toPyL ys) = true ↔ xs = ys)
  | [], [], _, _ => by rw [toPyL, PyData.eqvAll]; simp
  | [], y :: ys, _, _ => by rw [toPyL, toPyL, PyData.eqvAll]; simp
  | x :: xs, [], _, _ => by rw [toPyL, toPyL, PyData.eqvAll]; simp
  | x :: xs, y :: ys, h, k => by
    rw [plnL, Bool.and_eq_true] at h k
    rw [toPyL, toPyL, PyData.eqvAll, Bool.and_eq_true, eqv_iff x y h.1 k.1, eqvL_iff xs ys h.2 k.2]
    simp
end
theorem depthAll_le {k : Nat} : ∀ xs : List D, (∀ d ∈ xs, d.toPy.depth ≤ k) → PyData.depthAll (toPyL xs) ≤ k
  | [], _ => by rw [toPyL, PyData.depthAll]; exact Nat.zero_le _
  | d :: ds, h => by
    rw [toPyL, PyData.depthAll]
    exact Nat.max_le.mpr ⟨h d List.mem_cons_self, depthAll_le ds fun x m => h x (List.mem_cons_of_mem _ m)⟩
theorem dep_tup {k : Nat} {xs : List D} (h : ∀ d ∈ xs, d.toPy.depth ≤ k) : (D.tup xs).toPy.depth ≤ k + 1 := by
  rw [D.toPy, PyData.depth]; exact Nat.add_le_add_right (depthAll_le xs h) 1
theorem dep_lst {k : Nat} {xs : List D} (h : ∀ d ∈ xs, d.toPy.depth ≤ k) : (D.lst xs).toPy.depth ≤ k + 1 := by
  rw [D.toPy, PyData.depth]; exact Nat.add_le_add_right (depthAll_le xs h) 1
theorem dep_str (x : Str) : (D.str x).toPy.depth = 0 := by rw [D.toPy, PyData.depth]
theorem plnL_all : ∀ {xs : List D}, (∀ d ∈ xs, d.pln = true) → plnL xs = true
  | [], _ => by rw [plnL]
  | d :: ds, h => by rw [plnL, h d List.mem_cons_self, plnL_all fun x m => h x (List.mem_cons_of_mem _ m)]; rfl
theorem plnL_mem : ∀ {xs : List D}, plnL xs = true → ∀ d ∈ xs, d.pln = true
  | d :: ds, h, x, m => by
    rw [plnL, Bool.and_eq_true] at h
    rcases List.mem_cons.mp m with rfl | m
    · exact h.1
    · exact plnL_mem h.2 x m
theorem pln_str (x : Str) : (D.str x).pln = true := by rw [D.pln]
theorem pln_strs (xs : List Str) : plnL (xs.map .str) = true := plnL_all fun d m => by
  obtain ⟨x, _, rfl⟩ := List.mem_map.mp m; exact pln_str x
theorem pln_lst {xs : List D} (h : plnL xs = true) : (D.lst xs).pln = true := by rw [D.pln]; exact h
theorem pln_tup {xs : List D} (h : plnL xs = true) : (D.tup xs).pln = true := by rw [D.pln]; exact h
theorem eqB_pln {d e : D} (hd : d.pln = true) (he : e.pln = true) (hm : min d.toPy.depth e.toPy.depth ≤ 60) : ∃ b, eqB d e = some b ∧ (b = true ↔ d = e) := by
  have ok : eqOk d e = true := by
    unfold eqOk
    rw [pln_py d hd, pln_py e he, decide_eq_true hm]; rfl
  refine ⟨eqv d e, ?_, eqv_iff d e hd he⟩
  have key : ∀ d e : D, eqB d e = (if eqOk d e = true then some (eqv d e) else none) → eqOk d e = true → eqB d e = some (eqv d e) := fun d e h k => by rw [h, if_pos k]
  cases d <;> cases e <;> first | (exact key _ _ rfl ok) | (simp [D.pln] at hd he)
theorem eqD_pln {d e : D} (hd : d.pln = true) (he : e.pln = true) (hm : min d.toPy.depth e.toPy.depth ≤ 60) : ∃ b, eqD d e = some (.bl b) ∧ (b = true ↔ d = e) := by
  obtain ⟨b, e1, e2⟩ := eqB_pln hd he hm
  exact ⟨b, by unfold eqD; rw [e1]; rfl, e2⟩
theorem neD_pln {d e : D} (hd : d.pln = true) (he : e.pln = true) (hm : min d.toPy.depth e.toPy.depth ≤ 60) : ∃ b, neD d e = some (.bl (!b)) ∧ (b = true ↔ d = e) := by
  obtain ⟨b, e1, e2⟩ := eqB_pln hd he hm
  exact ⟨b, by unfold neD; rw [e1]; rfl, e2⟩
@[simp] theorem d_eqS (x y : Str) : eqD (.str x) (.str y) = some (.bl (decide (x = y))) := by
  obtain ⟨b, e1, e2⟩ := eqD_pln (pln_str x) (pln_str y) (by rw [dep_str]; exact Nat.le_trans (Nat.min_le_left _ _) (Nat.zero_le _))
  rw [e1]
  by_cases h : x = y
  · rw [e2.mpr (by rw [h]), decide_eq_true h]
  · have : b = false := by
      cases b with
      | false => rfl
      | true => exact absurd (D.str.inj (e2.mp rfl)) h
    rw [this, decide_eq_false h]
theorem ne_nil (xs : List Str) : neD (.lst (xs.map .str)) (.lst []) = some (.bl (!decide (xs = []))) := by
  obtain ⟨b, e1, e2⟩ := neD_pln (pln_lst (pln_strs xs)) (pln_lst (xs := []) (by rw [plnL])) (Nat.le_trans (Nat.min_le_right _ _) (by decide))
  rw [e1]
  by_cases h : xs = []
  · rw [e2.mpr (by rw [h]; rfl), decide_eq_true h]
  · have : b = false := by
      cases b with
      | false => rfl
      | true => exact absurd (List.map_eq_nil_iff.mp (D.lst.inj (e2.mp rfl))) h
    rw [this, decide_eq_false h]
theorem inB_lst {d : D} {xs : List D} (hd : d.pln = true) (hx : plnL xs = true) (hm : d.toPy.depth ≤ 60) : ∃ b, inB d (.lst xs) = some b ∧ (b = true ↔ d ∈ xs) := by
  have ok : memOk d xs = true := by
    unfold memOk
    rw [pln_py d hd, plnL_py xs hx, decide_eq_true hm]; rfl
  refine ⟨memD d xs, if_pos ok, ?_⟩
  unfold memD
  rw [List.any_eq_true]
  constructor
  · rintro ⟨z, hz, e⟩
    rw [← (eqv_iff z d (plnL_mem hx z hz) hd).mp e]; exact hz
  · intro h
    exact ⟨d, h, (eqv_iff d d hd hd).mpr rfl⟩
theorem mem_strs {x : Str} {xs : List Str} : D.str x ∈ xs.map D.str ↔ x ∈ xs := by
  constructor
  · intro h
    obtain ⟨y, hy, e⟩ := List.mem_map.mp h
    rw [← D.str.inj e]; exact hy
  · exact fun h => List.mem_map_of_mem h
theorem nin_strs (x : Str) (xs : List Str) : ninD (.str x) (.lst (xs.map .str)) = some (.bl (!decide (x ∈ xs))) := by
  obtain ⟨b, e1, e2⟩ := inB_lst (pln_str x) (pln_strs xs) (by rw [dep_str]; decide)
  unfold ninD
  rw [e1]
  rw [mem_strs] at e2
  by_cases h : x ∈ xs
  · rw [e2.mpr h, decide_eq_true h]; rfl
  · have : b = false := by cases b with | false => rfl | true => exact absurd (e2.mp rfl) h
    rw [this, decide_eq_false h]; rfl
theorem in_strs (x : Str) (xs : List Str) : inD (.str x) (.lst (xs.map .str)) = some (.bl (decide (x ∈ xs))) := by
  obtain ⟨b, e1, e2⟩ := inB_lst (pln_str x) (pln_strs xs) (by rw [dep_str]; decide)
  unfold inD
  rw [e1]
  rw [mem_strs] at e2
  by_cases h : x ∈ xs
  · rw [e2.mpr h, decide_eq_true h]; rfl
  · have : b = false := by cases b with | false => rfl | true => exact absurd (e2.mp rfl) h
    rw [this, decide_eq_false h]; rfl
/-! ### while by a measure -/
theorem sat_while {c : MT} {b : MS} {I : Nat → DEnv → Prop} {Q : Fl → DEnv → Prop}
    (step : ∀ n ρ, I n ρ → Sat (c ρ) fun k ρ1 => if k = true then Sat (b ρ1) (fun f ρ2 => (f = .nx ∧ ∃ m, m < n ∧ I m ρ2) ∨ ∃ z, f = .rt z ∧ Q (.rt z) ρ2) else Q .nx ρ1) (n : Nat) (ρ : DEnv) (h : I n ρ) : Sat (mWhile c b ρ) Q := by
  have go : ∀ n ρ, I n ρ → ∃ k, Sat (iterW c b k ρ) Q := by
    intro n
    induction n using Nat.strongRecOn with
    | ind n ih =>
      intro ρ h
      obtain ⟨k, ρ1, e1, h1⟩ := step n ρ h
      cases k with
      | false => exact ⟨1, .nx, ρ1, by unfold iterW; rw [e1, R.bind_ok, if_neg Bool.false_ne_true], h1⟩
      | true =>
        rw [if_pos rfl] at h1
        obtain ⟨f, ρ2, e2, h2⟩ := h1
        rcases h2 with ⟨rfl, m, hm, hi⟩ | ⟨z, rfl, q⟩
        · obtain ⟨j, g, ρ3, e3, q⟩ := ih m hm ρ2 hi
          exact ⟨j + 1, g, ρ3, by unfold iterW; rw [e1, R.bind_ok, if_pos rfl, e2, R.bind_ok]; exact e3, q⟩
        · exact ⟨1, .rt z, ρ2, by unfold iterW; rw [e1, R.bind_ok, if_pos rfl, e2, R.bind_ok], q⟩
  obtain ⟨k, f, ρ', e, q⟩ := go n ρ h
  refine ⟨f, ρ', ?_, q⟩
  rw [mWhile_eq k (by rw [e]; intro z; cases z)]
  exact e
/-! ### sayings as a graph -/
abbrev SS := List (Str × Str)
def prD (s : Str × Str) : D := .tup [.str s.1, .str s.2]
def ssD (ss : SS) : D := .tup (ss.map prD)
inductive Rch (ss : SS) : Str → Str → Prop
  | one {a b : Str} : (a, b) ∈ ss → Rch ss a b
  | snoc {a b c : Str} : Rch ss a b → (b, c) ∈ ss → Rch ss a c
theorem Rch.snd {ss : SS} {a b : Str} (h : Rch ss a b) : b ∈ ss.map Prod.snd := by
  cases h with
  | one e => exact List.mem_map_of_mem (f := Prod.snd) e
  | snoc _ e => exact List.mem_map_of_mem (f := Prod.snd) e
theorem nodup_le {α : Type} [DecidableEq α] : ∀ {xs ys : List α}, xs.Nodup → (∀ x ∈ xs, x ∈ ys) → xs.length ≤ ys.length
  | [], _, _, _ => Nat.zero_le _
  | x :: xs, ys, nd, h => by
    obtain ⟨h1, h2⟩ := List.nodup_cons.mp nd
    have hx := h x List.mem_cons_self
    have ih := nodup_le (xs := xs) (ys := ys.erase x) h2 fun y m => (List.mem_erase_of_ne (fun e : y = x => h1 (by rw [← e]; exact m))).mpr (h y (List.mem_cons_of_mem _ m))
    rw [List.length_erase_of_mem hx] at ih
    have := List.length_pos_of_mem hx
    rw [List.length_cons]; omega
theorem nd_snoc {α : Type} {xs : List α} {x : α} (h : xs.Nodup) (n : x ∉ xs) : (xs ++ [x]).Nodup := by
  refine List.nodup_append.mpr ⟨h, by simp, fun a m b m' e => ?_⟩
  cases List.mem_singleton.mp m'
  exact n (e ▸ m)
theorem pop_last (xs : List Str) (x : Str) : popD ((xs ++ [x]).map .str) [] = some (.str x, xs.map .str) := by
  show ((((xs ++ [x]).map D.str)[((xs ++ [x]).map D.str).length - 1]?).bind fun d => some (d, ((xs ++ [x]).map D.str).dropLast)) = _
  rw [List.map_append, List.map_singleton, List.dropLast_concat, List.length_append, List.length_singleton, Nat.add_sub_cancel, List.getElem?_concat_length]
  rfl
abbrev Bh (half : D) (n : Str) (fs ls : List Str) (h o t : Option D) : DEnv := [some half, some (.str n), some (.lst (fs.map .str)), some (.lst (ls.map .str)), h, o, t]
/-- what is found, what is waited for -/
structure DfsI (ss : SS) (n : Str) (fs : List Str) : Prop where
  nd : fs.Nodup
  rch : ∀ x ∈ fs, Rch ss n x
theorem DfsI.len {ss : SS} {n : Str} {fs : List Str} (h : DfsI ss n fs) : fs.length ≤ ss.length := by
  have := nodup_le h.nd fun x m => (h.rch x m).snd
  rwa [List.length_map] at this
theorem behind_nd {ss : SS} {nm : D} {n : Str} (hl : ss.length ≤ 1000) : ∃ fs : List Str, g__law_behind [.tup [nm, ssD ss], .str n] = .ok (.lst (fs.map .str)) [] ∧ fs.Nodup ∧ ∀ x, x ∈ fs ↔ Rch ss n x := by
  have main : Sat (m__law_behind ([some (.tup [nm, ssD ss]), some (.str n)] ++ List.replicate 5 none)) fun f _ => ∃ fs : List Str, f = .rt (.lst (fs.map .str)) ∧ fs.Nodup ∧ ∀ x, x ∈ fs ↔ Rch ss n x := by
    unfold m__law_behind
    refine sat_seq (sat_set (sat_of rfl ⟨rfl, ?_⟩))
    refine sat_seq (sat_set (sat_of rfl ⟨rfl, ?_⟩))
    change Sat (mSeq _ _ (Bh (.tup [nm, ssD ss]) n [] [n] none none none)) _
    refine sat_seq (sat_while (I := fun M ρ => ∃ (fs ls : List Str) (h o t : Option D), ρ = Bh (.tup [nm, ssD ss]) n fs ls h o t ∧ DfsI ss n fs ∧ (∀ x ∈ ls, x = n ∨ x ∈ fs) ∧ (∀ x, x = n ∨ x ∈ fs → x ∉ ls → ∀ m, (x, m) ∈ ss → m ∈ fs) ∧ M + fs.length = ss.length + ls.length ∧ ls.length ≤ fs.length + 1) ?_ (ss.length + 1) _
      ⟨[], [n], none, none, none, rfl, ⟨List.nodup_nil, by simp⟩, by simp, by simp, by simp, by simp⟩)
    rintro M ρ ⟨fs, ls, h, o, t, rfl, I, hw, hc, hM, hL⟩
    refine sat_of (a := !decide (ls = [])) (ρ := Bh (.tup [nm, ssD ss]) n fs ls h o t) (by simp [ne_nil]) ?_
    by_cases hls : ls = []
    · rw [decide_eq_true hls, if_neg (by simp)]
      refine ⟨rfl, sat_ret (sat_of (a := .lst (fs.map .str)) rfl ⟨fs, rfl, I.nd, fun x => ⟨I.rch x, fun r => ?_⟩⟩)⟩
      have cl : ∀ x, x = n ∨ x ∈ fs → ∀ m, (x, m) ∈ ss → m ∈ fs := fun x hx m e => hc x hx (by rw [hls]; simp) m e
      induction r with
      | one e => exact cl _ (.inl rfl) _ e
      | snoc _ e ih => exact cl _ (.inr ih) _ e
    · rw [decide_eq_false hls, if_pos (by rfl)]
      obtain ⟨ls', x, rfl⟩ : ∃ ls' x, ls = ls' ++ [x] := ⟨ls.dropLast, ls.getLast hls, (List.dropLast_concat_getLast hls).symm⟩
      refine sat_seq (sat_set (sat_mtL (i := 3) rfl (sat_nil ⟨_, _, _, rfl, pop_last ls' x, rfl, ?_⟩)))
      change Sat (mLoop _ _ _ (Bh (.tup [nm, ssD ss]) n fs ls' (some (.str x)) o t)) _
      have hx : x = n ∨ x ∈ fs := hw x (by simp)
      rw [List.length_append, List.length_singleton] at hM hL
      have lf0 := I.len
      refine sat_loop (ds := ss.map prD) rfl (sat_for (ss.map prD) (I := fun i ρ => ∃ (fs ls : List Str) (o t : Option D), ρ = Bh (.tup [nm, ssD ss]) n fs ls (some (.str x)) o t ∧ DfsI ss n fs ∧ (∀ x ∈ ls, x = n ∨ x ∈ fs) ∧ (x = n ∨ x ∈ fs) ∧
          (∀ y, y = n ∨ y ∈ fs → y ∉ ls → y ≠ x → ∀ m, (y, m) ∈ ss → m ∈ fs) ∧ (∀ j m, j < i → ss[j]? = some (x, m) → m ∈ fs) ∧ M - 1 + fs.length = ss.length + ls.length ∧ ls.length ≤ fs.length) ?_ _ ⟨fs, ls', o, t, rfl, I, fun y m => hw y (by simp [m]), hx, fun y hy hn hne m e => hc y hy (by simp [hn, hne]) m e, fun j m hj => absurd hj (Nat.not_lt_zero _), by omega, by omega⟩ ?_)
      · rintro i e ρ he ⟨fs, ls, o, t, rfl, I, hw, hx, hc, hp, hM', hL'⟩
        rw [List.getElem?_map] at he
        obtain ⟨⟨a, b⟩, hs, rfl⟩ := Option.map_eq_some_iff.mp he
        have hmem : (a, b) ∈ ss := List.mem_of_getElem? hs
        refine ⟨Bh (.tup [nm, ssD ss]) n fs ls (some (.str x)) (some (.str a)) (some (.str b)), rfl, ?_⟩
        by_cases hax : a = x
        · by_cases hbf : b ∈ fs
          · refine sat_ifF (by simp [hax, nin_strs, hbf]) (sat_of rfl (.inl ⟨rfl, fs, ls, _, _, rfl, I, hw, hx, hc, fun j m hj hjm => ?_, hM', hL'⟩))
            by_cases hji : j = i
            · subst hji; rw [hs] at hjm; cases hjm; exact hbf
            · exact hp j m (by omega) hjm
          · refine sat_ifT (by simp [hax, nin_strs, hbf]) ?_
            have lf := I.len
            have nb : Rch ss n b := by
              subst hax
              rcases hx with q | q
              · subst q; exact .one hmem
              · exact .snoc (I.rch _ q) hmem
            have I' : DfsI ss n (fs ++ [b]) := ⟨nd_snoc I.nd hbf, fun y m => by
              rcases List.mem_append.mp m with m | m
              · exact I.rch y m
              · cases List.mem_singleton.mp m; exact nb⟩
            have lf' := I'.len
            rw [List.length_append, List.length_singleton] at lf'
            have e1 : appendD (fs.map .str) [.str b] = some (.non, (fs ++ [b]).map .str) := by
              rw [append_ok (by rw [List.length_map]; omega), List.map_append]; rfl
            have e2 : appendD (ls.map .str) [.str b] = some (.non, (ls ++ [b]).map .str) := by
              rw [append_ok (by rw [List.length_map]; omega), List.map_append]; rfl
            refine sat_seq (sat_drop (sat_mtL (i := 2) rfl (sat_cons (sat_of (a := .str b) rfl (sat_nil ⟨_, _, _, rfl, e1, rfl, ?_⟩)))))
            refine sat_drop (sat_mtL (i := 3) rfl (sat_cons (sat_of (a := .str b) rfl (sat_nil ⟨_, _, _, rfl, e2, .inl ⟨rfl, fs ++ [b], ls ++ [b], _, _, rfl, I', fun y m => ?_, ?_, fun y hy hn hne m em => ?_, fun j m hj hjm => ?_, ?_, ?_⟩⟩))))
            · rcases List.mem_append.mp m with m | m
              · rcases hw y m with q | q
                · exact .inl q
                · exact .inr (List.mem_append_left _ q)
              · exact .inr (List.mem_append_right _ m)
            · rcases hx with q | q
              · exact .inl q
              · exact .inr (List.mem_append_left _ q)
            · have hn' : y ∉ ls ∧ y ≠ b := by simpa using hn
              refine List.mem_append_left _ (hc y ?_ hn'.1 hne m em)
              rcases hy with q | q
              · exact .inl q
              · rcases List.mem_append.mp q with q | q
                · exact .inr q
                · exact absurd (List.mem_singleton.mp q) hn'.2
            · by_cases hji : j = i
              · subst hji; rw [hs] at hjm; cases hjm; simp
              · exact List.mem_append_left _ (hp j m (by omega) hjm)
            · rw [List.length_append, List.length_append, List.length_singleton]; omega
            · rw [List.length_append, List.length_append, List.length_singleton]; omega
        · refine sat_ifF (by simp [hax]) (sat_of rfl (.inl ⟨rfl, fs, ls, _, _, rfl, I, hw, hx, hc, fun j m hj hjm => ?_, hM', hL'⟩))
          by_cases hji : j = i
          · subst hji; rw [hs] at hjm; cases hjm; exact absurd rfl hax
          · exact hp j m (by omega) hjm
      · rintro ρ ⟨fs, ls, o, t, rfl, I, hw, hx, hc, hp, hM', hL'⟩
        rw [List.length_map] at hp
        refine .inl ⟨rfl, M - 1, by have := I.len; omega, fs, ls, _, o, t, rfl, I, hw, fun y hy hn m em => ?_, hM', by omega⟩
        by_cases hyx : y = x
        · subst hyx
          obtain ⟨j, hj⟩ := List.mem_iff_getElem?.mp em
          exact hp j m (List.getElem?_eq_some_iff.mp hj).1 hj
        · exact hc y hy hn hyx m em
  obtain ⟨f, ρ, e, fs, rfl, h⟩ := main
  refine ⟨fs, ?_, h⟩
  have e' : m__law_behind (([.tup [nm, ssD ss], .str n] : List D).map some ++ List.replicate (7 - ([.tup [nm, ssD ss], .str n] : List D).length) none) = .ok (.rt (.lst (fs.map .str))) ρ := e
  show (runF 7 0 m__law_behind [.tup [nm, ssD ss], .str n]).noEx = _
  rw [e_run, e', e_fin2, List.take_zero]; rfl
theorem behind_ok {ss : SS} {nm : D} {n : Str} (hl : ss.length ≤ 1000) : ∃ fs : List Str, g__law_behind [.tup [nm, ssD ss], .str n] = .ok (.lst (fs.map .str)) [] ∧ ∀ x, x ∈ fs ↔ Rch ss n x := by
  obtain ⟨fs, e, _, h⟩ := behind_nd (nm := nm) (n := n) hl
  exact ⟨fs, e, h⟩
/-! ### readings of mirrors, by terms -/
theorem run_rt {N fx : Nat} {m : MS} {ds : List D} {v : D} {ρ ρ1 : DEnv} (h : m (ds.map some ++ List.replicate (N - ds.length) none) = .ok (.rt v) ρ) (e : ρ.take fx = ρ1) : (runF N fx m ds).noEx = .ok v ρ1 := by
  rw [e_run, h, e_fin2, e]; rfl
theorem run_nx {N fx : Nat} {m : MS} {ds : List D} {ρ ρ1 : DEnv} (h : m (ds.map some ++ List.replicate (N - ds.length) none) = .ok .nx ρ) (e : ρ.take fx = ρ1) : (runF N fx m ds).noEx = .ok .non ρ1 := by
  rw [e_run, h, e_fin1, e]; rfl
theorem runX_rt {N fx : Nat} {m : MS} {ds : List D} {v : D} {ρ ρ1 : DEnv} (h : m (ds.map some ++ List.replicate (N - ds.length) none) = .ok (.rt v) ρ) (e : ρ.take fx = ρ1) : runF N fx m ds = .ok v ρ1 := by
  rw [e_run, h, e_fin2, e]
theorem runX_nx {N fx : Nat} {m : MS} {ds : List D} {ρ ρ1 : DEnv} (h : m (ds.map some ++ List.replicate (N - ds.length) none) = .ok .nx ρ) (e : ρ.take fx = ρ1) : runF N fx m ds = .ok .non ρ1 := by
  rw [e_run, h, e_fin1, e]
theorem runX_ex {N fx : Nat} {m : MS} {ds : List D} {z : Ex} {ρ ρ1 : DEnv} (h : m (ds.map some ++ List.replicate (N - ds.length) none) = .ex z ρ) (e : ρ.take fx = ρ1) : runF N fx m ds = .ex z ρ1 := by
  rw [e_run, h, ← e]; rfl
theorem retV {m : ME} {ρ ρ1 : DEnv} {d : D} (h : m ρ = .ok d ρ1) : mRet m ρ = .ok (.rt d) ρ1 := by rw [e_ret, h]; rfl
theorem setV' {i : Nat} {m : ME} {ρ ρ1 : DEnv} {d : D} (h : m ρ = .ok d ρ1) : mSet i m ρ = .ok .nx (ρ1.set i (some d)) := by rw [e_set, h]; rfl
theorem setX {i : Nat} {m : ME} {ρ ρ1 : DEnv} {z : Ex} (h : m ρ = .ex z ρ1) : mSet i m ρ = .ex z ρ1 := by rw [e_set, h]; rfl
theorem dropV {m : ME} {ρ ρ1 : DEnv} {d : D} (h : m ρ = .ok d ρ1) : mDrop m ρ = .ok .nx ρ1 := by rw [e_drop, h]; rfl
theorem dropX {m : ME} {ρ ρ1 : DEnv} {z : Ex} (h : m ρ = .ex z ρ1) : mDrop m ρ = .ex z ρ1 := by rw [e_drop, h]; rfl
theorem seqV {s t : MS} {ρ ρ1 : DEnv} {r : R Fl} (h : s ρ = .ok .nx ρ1) (k : t ρ1 = r) : mSeq s t ρ = r := by rw [e_seq, h]; exact k
theorem seqR {s t : MS} {ρ ρ1 : DEnv} {d : D} (h : s ρ = .ok (.rt d) ρ1) : mSeq s t ρ = .ok (.rt d) ρ1 := by rw [e_seq, h]; rfl
theorem seqX {s t : MS} {ρ ρ1 : DEnv} {z : Ex} (h : s ρ = .ex z ρ1) : mSeq s t ρ = .ex z ρ1 := by rw [e_seq, h]; rfl
theorem ifV_T {c : MT} {m n : MS} {ρ ρ1 : DEnv} {r : R Fl} (h : c ρ = .ok true ρ1) (k : m ρ1 = r) : mIfS c m n ρ = r := by rw [e_ifS, h]; exact k
theorem ifV_F {c : MT} {m n : MS} {ρ ρ1 : DEnv} {r : R Fl} (h : c ρ = .ok false ρ1) (k : n ρ1 = r) : mIfS c m n ρ = r := by rw [e_ifS, h]; exact k
theorem consV {m : ME} {t : MA} {ρ ρ1 ρ2 : DEnv} {d : D} {ds : List D} (h : m ρ = .ok d ρ1) (k : t ρ1 = .ok ds ρ2) : mCons m t ρ = .ok (d :: ds) ρ2 := by rw [e_cons, h, R.bind_ok, k]; rfl
theorem fdV {i j : Nat} {c x : Str} {fd : List (Str × D)} {d : D} {ρ : DEnv} (h : ρ[i]? = some (some (.ob c fd))) (hj : fd[j]? = some (x, d)) : mFd i j ρ = .ok d ρ := by
  unfold mFd
  rw [e_own, h, Option.bind_some]
  show R.of ((fldD j (.ob c fd)).map Prod.snd) ρ = _
  rw [show fldD j (.ob c fd) = some (x, d) from hj]; rfl
theorem opLV {f : D → Option D} {m : ME} {ρ ρ1 : DEnv} {d v : D} (h1 : m ρ = .ok d ρ1) (q : f d = some v) : mOpL f m ρ = .ok v ρ1 := by
  unfold mOpL
  rw [h1, R.bind_ok, q, R.of_some]
theorem op2LV {f : D → D → Option D} {m n : ME} {ρ : DEnv} {d e v : D} (h1 : m ρ = .ok d ρ) (h2 : n ρ = .ok e ρ) (q : f d e = some v) : mOp2L f (mV m) n ρ = .ok v ρ := by
  unfold mOp2L
  rw [e_V, h1]
  simp only [R.bind_ok, h2, e_getv, Option.bind_some, q, R.of_some]
theorem call1V {i n : Nat} {g : List D → R D} {ma : MA} {ρ ρ1 : DEnv} {ds : List D} {dz d0 d1 v : D} (h : ρ[i]? = some (some dz)) (ha : ma ρ = .ok ds ρ1) (h1 : ρ1[i]? = some (some d0)) (hn : ds.length = n) (e : g (d0 :: ds) = .ok v [some d1]) : mCall1 i n g ma ρ = .ok v (ρ1.set i (some d1)) := by
  rw [e_call1]
  simp only [e_own, h, Option.bind_some, id, R.of_some, R.bind_ok, ha, h1, hn, if_true, e]
theorem call1X {i n : Nat} {g : List D → R D} {ma : MA} {ρ ρ1 : DEnv} {ds : List D} {d0 d1 : D} {z : Ex} (h : ρ[i]? = some (some d0)) (ha : ma ρ = .ok ds ρ1) (h1 : ρ1[i]? = some (some d0)) (hn : ds.length = n) (e : g (d0 :: ds) = .ex z [some d1]) : mCall1 i n g ma ρ = .ex z (ρ1.set i (some d1)) := by
  rw [e_call1]
  simp only [e_own, h, Option.bind_some, id, R.of_some, R.bind_ok, ha, h1, hn, if_true, e]
theorem callFV {gd : DEnv → Bool} {i j n : Nat} {g : List D → R D} {ma : MA} {ρ ρ1 : DEnv} {c x : Str} {fd : List (Str × D)} {ds : List D} {d0 d1 v : D} (h : ρ[i]? = some (some (.ob c fd))) (hj : fd[j]? = some (x, d0)) (hg : gd ρ = true) (ha : ma (ρ.set i none) = .ok ds ρ1) (hn : ds.length = n) (e : g (d0 :: ds) = .ok v [some d1]) :
    mCallF gd i j n g ma ρ = .ok v (ρ1.set i (some (.ob c (fd.set j (x, d1))))) := by
  have ow : own ρ i = some (.ob c fd) := by unfold own; rw [h]; rfl
  unfold mCallF
  rw [ow]
  dsimp only
  rw [show fldD j (.ob c fd) = some (x, d0) from hj]
  dsimp only
  rw [if_pos hg, ha, R.bind_ok, if_pos hn, e]; rfl
theorem mtHV {i j : Nat} {f : List D → List D → Option (D × List D)} {ma : MA} {ρ ρ1 : DEnv} {c x : Str} {fd : List (Str × D)} {ds es ds' : List D} {z : D} (h : ρ[i]? = some (some (.ob c fd))) (hj : fd[j]? = some (x, .lst ds)) (ha : ma (ρ.set i none) = .ok es ρ1) (q : f ds es = some (z, ds')) :
    mMtH i j f ma ρ = .ok z (ρ1.set i (some (.ob c (fd.set j (x, .lst ds'))))) := by
  have ow : own ρ i = some (.ob c fd) := by unfold own; rw [h]; rfl
  unfold mMtH
  rw [ow]
  dsimp only
  rw [show fldD j (.ob c fd) = some (x, .lst ds) from hj]
  dsimp only
  rw [ha, R.bind_ok, q]; rfl
theorem putHV {i j : Nat} {mc mv : ME} {ρ ρ1 ρ2 : DEnv} {c x : Str} {fd : List (Str × D)} {ds : List (Key × D)} {k v : D} {q : Key} (hv : mv ρ = .ok v ρ1) (h : ρ1[i]? = some (some (.ob c fd))) (hj : fd[j]? = some (x, .dK ds)) (hc : mc (ρ1.set i none) = .ok k ρ2) (hk : keyK k = some q) (hl : ds.length < 16777216) :
    mPutH i j mc mv ρ = .ok .nx (ρ2.set i (some (.ob c (fd.set j (x, .dK (put ds q v)))))) := by
  have ow : own ρ1 i = some (.ob c fd) := by unfold own; rw [h]; rfl
  unfold mPutH
  rw [hv, R.bind_ok, ow]
  dsimp only
  rw [show fldD j (.ob c fd) = some (x, .dK ds) from hj]
  dsimp only
  rw [hc, R.bind_ok, hk]
  dsimp only
  rw [if_pos hl]; rfl
theorem rsetV {i j : Nat} {x : Str} {m : ME} {ρ ρ1 : DEnv} {c : Str} {fd : List (Str × D)} {d : D} (hm : m ρ = .ok d ρ1) (h : ρ1[i]? = some (some (.ob c fd))) (hj : j < fd.length) : mRset i j x m ρ = .ok .nx (ρ1.set i (some (.ob c (fd.set j (x, d))))) := by
  unfold mRset
  rw [hm, R.bind_ok, e_own, h, Option.bind_some]
  show (R.of (if j < fd.length then some (D.ob c (fd.set j (x, d))) else none) ρ1).bind _ = _
  rw [if_pos hj]; rfl
theorem fsetV {i j : Nat} {x : Str} {m : ME} {ρ ρ1 : DEnv} {c : Str} {fd : List (Str × D)} {d : D} (hm : m ρ = .ok d ρ1) (h : ρ1[i]? = some (some (.ob c fd))) (hj : j < fd.length) : mFset i j x m ρ = .ok .nx (ρ1.set i (some (.ob c (fd.set j (x, d))))) := by
  unfold mFset
  rw [hm, R.bind_ok, e_own, h, Option.bind_some]
  show (R.of (if j < fd.length then some (D.ob c (fd.set j (x, d))) else _) ρ1).bind _ = _
  rw [if_pos hj]; rfl
theorem fputV {i j : Nat} {c0 x : Str} {mc mv : ME} {ρ : DEnv} {fd : List (Str × D)} {d k v d' : D} (h : ρ[i]? = some (some (.ob c0 fd))) (hj : fd[j]? = some (x, d)) (hv : mv ρ = .ok v ρ) (hc : mc (ρ.set i none) = .ok k (ρ.set i none)) (q : putD d k v = some d') : mFput i j mc mv ρ = .ok .nx (ρ.set i (some (.ob c0 (fd.set j (x, d'))))) := by
  have ow : own ρ i = some (.ob c0 fd) := by unfold own; rw [h]; rfl
  unfold mFput
  rw [hv, R.bind_ok, ow]
  dsimp only
  rw [show fldD j (.ob c0 fd) = some (x, d) from hj]
  dsimp only
  rw [hc, R.bind_ok, q, R.of_some, R.bind_ok, List.set_set]; rfl
theorem fixV {i j : Nat} {c0 x : Str} {mc : ME} {ρ : DEnv} {fd : List (Str × D)} {d k v : D} (h : ρ[i]? = some (some (.ob c0 fd))) (hj : fd[j]? = some (x, d)) (hc : mc (ρ.set i none) = .ok k (ρ.set i none)) (q : ixD d k = some v) : mFix i j mc ρ = .ok v ρ := by
  have ow : own ρ i = some (.ob c0 fd) := by unfold own; rw [h]; rfl
  have il : i < ρ.length := (List.getElem?_eq_some_iff.mp h).1
  unfold mFix
  rw [ow]
  dsimp only
  rw [show fldD j (.ob c0 fd) = some (x, d) from hj]
  dsimp only
  rw [hc, R.bind_ok, q, List.set_set]
  have : ρ.set i (some (.ob c0 fd)) = ρ := by
    refine List.ext_getElem? fun z => ?_
    by_cases e : i = z
    · subst e; rw [List.getElem?_set_self il, h]
    · rw [List.getElem?_set_ne e]
  rw [this]; rfl
theorem getHV {i j : Nat} {mk mx : ME} {ρ : DEnv} {c x : Str} {fd : List (Str × D)} {d k y z : D} (h : ρ[i]? = some (some (.ob c fd))) (hj : fd[j]? = some (x, d)) (hd : d.isDc = true) (hk : mk (ρ.set i none) = .ok k (ρ.set i none)) (hx : mx (ρ.set i none) = .ok y (ρ.set i none)) (q : getD3 d k y = some z) : mGetH i j mk mx ρ = .ok z ρ := by
  have ow : own ρ i = some (.ob c fd) := by unfold own; rw [h]; rfl
  have il : i < ρ.length := (List.getElem?_eq_some_iff.mp h).1
  unfold mGetH
  rw [ow]
  dsimp only
  rw [show fldD j (.ob c fd) = some (x, d) from hj]
  dsimp only
  rw [if_pos hd, hk, R.bind_ok, hx, R.bind_ok, q, List.set_set]
  have : ρ.set i (some (.ob c fd)) = ρ := by
    refine List.ext_getElem? fun z => ?_
    by_cases e : i = z
    · subst e; rw [List.getElem?_set_self il, h]
    · rw [List.getElem?_set_ne e]
  rw [this]; rfl
theorem op2V {f : D → D → Option D} {ma mb : ME} {ρ ρ1 ρ2 : DEnv} {d e r : D} (ha : ma ρ = .ok d ρ1) (hb : mb ρ1 = .ok e ρ2) (h : f d e = some r) : mOp2 f (mV ma) (mV mb) ρ = .ok r ρ2 := by
  rw [e_op2, e_V, ha]
  simp only [R.bind_ok, e_V, hb, e_getv, Option.bind_some, h, R.of_some]
theorem testV {m : ME} {ρ ρ1 : DEnv} {k : Bool} (h : m ρ = .ok (.bl k) ρ1) : mTest m ρ = .ok k ρ1 := by rw [e_test, h]; rfl
theorem opSV {f : D → Option D} {m : ME} {ρ ρ1 : DEnv} {d v : D} (h : m ρ = .ok d ρ1) (e : f d = some v) : mOpN (one f) (mOCons (mV m) mONil) ρ = .ok v ρ1 := by
  rw [e_opN, e_oCons, e_V, h]
  simp only [R.bind_ok, e_oNil, e_getA, e_getA0, e_getv, Option.bind_some, e_one, e, R.of_some]
theorem op1V {f : D → Option D} {m : ME} {ρ ρ1 : DEnv} {d v : D} (h : m ρ = .ok d ρ1) (e : f d = some v) : mOp1 f (mV m) ρ = .ok v ρ1 := by
  rw [e_op1, e_V, h]
  simp only [R.bind_ok, e_getv, Option.bind_some, e, R.of_some]
theorem raiseV {c : Str} {fs : List Str} {a : MA} {ρ ρ1 : DEnv} {ds : List D} (h : a ρ = .ok ds ρ1) (hl : ds.length = fs.length) : mRaise c fs a ρ = .ex ⟨c, (fs.zip ds).reverse⟩ ρ1 := by
  unfold mRaise
  rw [h, R.bind_ok, if_pos hl]
theorem aliasV {i j k : Nat} {m : MS} {ρ ρ1 : DEnv} {c x : Str} {fd : List (Str × D)} {d : D} {f : Fl} (h : ρ[i]? = some (some (.ob c fd))) (hj : fd[j]? = some (x, d)) (e : m (ρ.set k (some (.ob Str.empty []))) = .ok f ρ1) : mAlias i j k m ρ = .ok f (ρ1.set k none) := by
  have ow : own ρ i = some (.ob c fd) := by unfold own; rw [h]; rfl
  unfold mAlias
  rw [ow]
  dsimp only
  rw [show fldD j (.ob c fd) = some (x, d) from hj]
  dsimp only
  rw [e]; rfl
theorem fill_one {ρ : DEnv} {i : Nat} (hi : i < ρ.length) : fillD ρ [i] (wipeD ρ [i]) = ρ := by
  show (ρ.set i none).set i ((ρ[i]?).bind id) = ρ
  rw [List.set_set]
  apply List.ext_getElem?
  intro j
  by_cases e : i = j
  · subst e
    rw [List.getElem?_set_self hi, List.getElem?_eq_getElem hi]
    cases ρ[i] <;> rfl
  · rw [List.getElem?_set_ne e]
/-- a comprehension over things that stand for others -/
theorem mLc_map {α : Type} {ma : MA} {k : D → DEnv → Option DEnv} {test : MT} {elt : ME} {vs : List Nat} {ρ : DEnv} {R : List α} (g : α → D) (p : α → Bool) (f : α → D) (hma : ma ρ = .ok (R.map g) ρ) (hlen : R.length ≤ 16777216)
    (hstep : ∀ d ∈ R, ∃ ρ1, k (g d) (wipeD ρ vs) = some ρ1 ∧ wipeD ρ1 vs = wipeD ρ vs ∧ test ρ1 = .ok (p d) ρ1 ∧ (p d = true → elt ρ1 = .ok (f d) ρ1)) (hfill : fillD ρ vs (wipeD ρ vs) = ρ) :
    mLc ma k test elt vs ρ = .ok (.lst ((R.filter p).map f)) ρ := by
  have go : ∀ (l : List α) (acc : List D) (ρ0 : DEnv), (∀ d ∈ l, d ∈ R) → acc.length + l.length ≤ 16777216 → wipeD ρ0 vs = wipeD ρ vs → ∃ ρ', mLcGo k test elt vs (l.map g) acc ρ0 = .ok (acc ++ (l.filter p).map f) ρ' ∧ wipeD ρ' vs = wipeD ρ vs := by
    intro l
    induction l with
    | nil => intro acc ρ0 _ _ h; exact ⟨ρ0, by simp [mLcGo], h⟩
    | cons d l ih =>
      intro acc ρ0 hm hl h
      obtain ⟨ρ1, e1, e2, e3, e4⟩ := hstep d (hm d List.mem_cons_self)
      rw [List.length_cons] at hl
      rw [List.map_cons]
      unfold mLcGo
      rw [h, e1]
      dsimp only
      rw [e3, VL.R.bindN_ok]
      cases hp : p d with
      | false =>
        rw [if_neg Bool.false_ne_true]
        obtain ⟨ρ', e5, e6⟩ := ih acc ρ1 (fun x m => hm x (List.mem_cons_of_mem _ m)) (by omega) e2
        refine ⟨ρ', ?_, e6⟩
        rw [e5, List.filter_cons_of_neg (by rw [hp]; exact Bool.false_ne_true)]
      | true =>
        rw [if_pos rfl, e4 hp, VL.R.bindN_ok, if_pos (by omega)]
        obtain ⟨ρ', e5, e6⟩ := ih (acc ++ [f d]) ρ1 (fun x m => hm x (List.mem_cons_of_mem _ m)) (by rw [List.length_append, List.length_singleton]; omega) e2
        refine ⟨ρ', ?_, e6⟩
        rw [e5, List.filter_cons_of_pos hp, List.map_cons, List.append_assoc]
        rfl
  obtain ⟨ρ', e1, e2⟩ := go R [] ρ (fun _ m => m) (by simpa using hlen) rfl
  unfold mLc
  rw [hma, VL.R.bind_ok, e1, VL.R.bind_ok, e2, hfill]
  rfl
/-- .. of one name -/
theorem lc_var {α : Type} {ma : MA} {test : MT} {elt : ME} {i : Nat} {ρ : DEnv} {R : List α} (g : α → D) (p : α → Bool) (f : α → D) (hma : ma ρ = .ok (R.map g) ρ) (hlen : R.length ≤ 16777216) (hi : i < ρ.length)
    (ht : ∀ a ∈ R, test (ρ.set i (some (g a))) = .ok (p a) (ρ.set i (some (g a)))) (he : ∀ a ∈ R, p a = true → elt (ρ.set i (some (g a))) = .ok (f a) (ρ.set i (some (g a)))) : mLc ma (kName i) test elt [i] ρ = .ok (.lst ((R.filter p).map f)) ρ :=
  mLc_map g p f hma hlen (fun a ha => ⟨ρ.set i (some (g a)), by
    show some ((ρ.set i none).set i _) = _
    rw [List.set_set], by
    show (ρ.set i _).set i none = ρ.set i none
    rw [List.set_set], ht a ha, he a ha⟩) (fill_one hi)
theorem lc_vmap {α : Type} {ma : MA} {elt : ME} {i : Nat} {ρ : DEnv} {R : List α} (g : α → D) (f : α → D) (hma : ma ρ = .ok (R.map g) ρ) (hlen : R.length ≤ 16777216) (hi : i < ρ.length)
    (he : ∀ a ∈ R, elt (ρ.set i (some (g a))) = .ok (f a) (ρ.set i (some (g a)))) : mLc ma (kName i) mYes elt [i] ρ = .ok (.lst (R.map f)) ρ := by
  have := lc_var (elt := elt) (test := mYes) g (fun _ => true) f hma hlen hi (fun _ _ => rfl) fun a m _ => he a m
  rwa [List.filter_eq_self.mpr fun _ _ => rfl] at this
theorem op2_val {f : D → D → Option D} {ma mb : ME} {ρ : DEnv} {d e r : D} (ha : ma ρ = .ok d ρ) (hb : mb ρ = .ok e ρ) (h : f d e = some r) : mOp2 f (mV ma) (mV mb) ρ = .ok r ρ := by
  rw [e_op2, e_V, ha, R.bind_ok, R.bind_ok, e_V, hb]
  simp only [R.bind_ok, e_getv, Option.bind_some, h, R.of_some]
theorem call0_1 {g : List D → R D} {m : ME} {ρ ρ' : DEnv} {d v : D} (h : m ρ = .ok d ρ) (e : g [d] = .ok v ρ') : mCall0 1 g (mCons m mNil) ρ = .ok v ρ := by
  rw [e_call0, e_cons, h, R.bind_ok, e_nil, R.bind_ok, R.bind_ok, if_pos (show ([d] : List D).length = 1 from rfl), e]
theorem call0_2 {g : List D → R D} {m n : ME} {ρ ρ' : DEnv} {d e v : D} (h : m ρ = .ok d ρ) (h2 : n ρ = .ok e ρ) (h3 : g [d, e] = .ok v ρ') : mCall0 2 g (mCons m (mCons n mNil)) ρ = .ok v ρ := by
  rw [e_call0, e_cons, h, R.bind_ok, e_cons, h2, R.bind_ok, e_nil, R.bind_ok, R.bind_ok, R.bind_ok, if_pos (show ([d, e] : List D).length = 2 from rfl), h3]
theorem test_val {m : ME} {ρ : DEnv} {k : Bool} (h : m ρ = .ok (.bl k) ρ) : mTest m ρ = .ok k ρ := by
  rw [e_test, h, R.bind_ok, e_asB]
theorem or_ff {t u : MT} {ρ : DEnv} (h1 : t ρ = .ok false ρ) (h2 : u ρ = .ok false ρ) : mOr t u ρ = .ok false ρ := by
  rw [e_or, h1, R.bind_ok, if_neg Bool.false_ne_true, h2]
theorem and_f {t u : MT} {ρ : DEnv} (h1 : t ρ = .ok false ρ) : mAnd t u ρ = .ok false ρ := by
  rw [e_and, h1, R.bind_ok]; rfl
theorem and_tf {t u : MT} {ρ : DEnv} (h1 : t ρ = .ok true ρ) (h2 : u ρ = .ok false ρ) : mAnd t u ρ = .ok false ρ := by
  rw [e_and, h1, R.bind_ok, if_pos rfl, h2]
theorem not_t {t : MT} {ρ : DEnv} (h1 : t ρ = .ok true ρ) : mNot t ρ = .ok false ρ := by
  rw [e_not, h1, R.bind_ok]; rfl
theorem ts_val {m : ME} {ρ : DEnv} {ds : List D} (h : m ρ = .ok (.tup ds) ρ) : mTs m ρ = .ok ds ρ := by
  show (m ρ).bind asT = _
  rw [h]; rfl
theorem ls_val {m : ME} {ρ : DEnv} {ds : List D} (h : m ρ = .ok (.lst ds) ρ) : mLs m ρ = .ok ds ρ := by
  show (m ρ).bind asL = _
  rw [h]; rfl
theorem tup2_val {m n : ME} {ρ : DEnv} {d e : D} (h1 : m ρ = .ok d ρ) (h2 : n ρ = .ok e ρ) : mTup (mCons m (mCons n mNil)) ρ = .ok (.tup [d, e]) ρ := by
  rw [e_tup, e_cons, h1, R.bind_ok, e_cons, h2, R.bind_ok, e_nil, R.bind_ok, R.bind_ok, R.bind_ok]
  rfl
/-! ### the keeper's data -/
abbrev EN := List (Int × Str × Str)
def enK (E : EN) : List (Key × D) := E.map fun e => (.inl e.1, prD e.2)
def srtE (E : EN) : EN := E.mergeSort fun a b => leIx a.1 b.1
def ordE (E : EN) : SS := (srtE E).map Prod.snd
abbrev NT (xs : List Str) : D := .tup (xs.map .str)
abbrev KO (xs : List Str) (E : EN) (n : Int) (ds us : List D) : D := .ob "Keeper" [("names_told", NT xs), ("kept", .dK (enK E)), ("next_number", .int n), ("deeds", .lst ds), ("undone", .lst us)]
abbrev SO (xs : List Str) (k : D) (E : EN) (n : Int) (ds us : List D) : D := .ob Str.empty [("names", NT xs), ("keeper", k), ("kept", .dK (enK E)), ("next", .int n), ("done", .lst ds), ("undone", .lst us)]
theorem srtE_perm (E : EN) : (srtE E).Perm E := List.mergeSort_perm E _
theorem srtE_len (E : EN) : (srtE E).length = E.length := (srtE_perm E).length_eq
theorem ordE_len (E : EN) : (ordE E).length = E.length := by unfold ordE; rw [List.length_map, srtE_len]
theorem srtE_num (E : EN) : (srtE E).map Prod.fst = sortI (E.map Prod.fst) := by
  refine sortI_uniq ((srtE_perm E).map _) ?_
  rw [List.pairwise_map]
  exact (List.pairwise_mergeSort (le := fun (a b : Int × Str × Str) => leIx a.1 b.1) (fun a b c h1 h2 => leIx_trans _ _ _ h1 h2) (fun a b => leIx_total _ _) E).imp fun h => of_decide_eq_true h
theorem mem_ordE {E : EN} {p : Str × Str} : p ∈ ordE E ↔ ∃ i, (i, p) ∈ E := by
  unfold ordE
  rw [List.mem_map]
  constructor
  · rintro ⟨⟨i, q⟩, m, rfl⟩
    exact ⟨i, (srtE_perm E).subset m⟩
  · rintro ⟨i, m⟩
    exact ⟨(i, p), (srtE_perm E).symm.subset m, rfl⟩
theorem keysI_en : ∀ E : EN, keysI (enK E) = some (E.map Prod.fst)
  | [] => rfl
  | (i, p) :: E => by
    show (keysI (enK E)).bind (fun t => some (i :: t)) = _
    rw [keysI_en E]; rfl
theorem keysL_en (E : EN) : keysLD (.dK (enK E)) = some (.lst ((E.map Prod.fst).map .int)) := by
  show (if (enK E).all (fun kv => ascK kv.1) = true then some (D.lst ((enK E).map fun kv => keyD kv.1)) else none) = _
  rw [if_pos]
  · unfold enK
    rw [List.map_map, List.map_map]; rfl
  · rw [List.all_eq_true]
    intro kv m
    obtain ⟨e, _, rfl⟩ := List.mem_map.mp m
    rfl
theorem asInts_all (l : List Int) : asInts (l.map .int) = some l := by
  have := asInts_map (fun c : Int => c) l
  rw [List.map_id'] at this; exact this
theorem look_en {i : Int} {p : Str × Str} : ∀ {E : EN}, (E.map Prod.fst).Nodup → (i, p) ∈ E → look (enK E) (.inl i) = some (prD p)
  | [], _, h => by cases h
  | (j, q) :: E, nd, h => by
    obtain ⟨n1, n2⟩ := List.nodup_cons.mp nd
    have step : look (enK ((j, q) :: E)) (.inl i) = if j = i then some (prD q) else look (enK E) (.inl i) := by
      unfold look enK
      rw [List.map_cons, List.find?_cons]
      by_cases e : j = i
      · subst e; simp
      · have : decide ((Sum.inl j : Key) = .inl i) = false := decide_eq_false fun z => e (Sum.inl.inj z)
        rw [this, if_neg e]
    rw [step]
    rcases List.mem_cons.mp h with e | h
    · cases e; rw [if_pos rfl]
    · have : ¬ j = i := fun e => n1 (by rw [e]; exact List.mem_map.mpr ⟨(i, p), h, rfl⟩)
      rw [if_neg this]
      exact look_en n2 h
theorem look_none {i : Int} : ∀ {E : EN}, i ∉ E.map Prod.fst → look (enK E) (.inl i) = none
  | [], _ => rfl
  | (j, q) :: E, h => by
    have hn : ¬ j = i := fun e => h (by rw [e]; exact List.mem_cons_self)
    unfold look enK
    rw [List.map_cons, List.find?_cons]
    have : decide ((Sum.inl j : Key) = .inl i) = false := decide_eq_false fun z => hn (Sum.inl.inj z)
    rw [this]
    exact look_none (E := E) fun m => h (List.mem_cons_of_mem _ m)
theorem put_en {i : Int} {p : Str × Str} {E : EN} (h : i ∉ E.map Prod.fst) : put (enK E) (.inl i) (prD p) = enK (E ++ [(i, p)]) := by
  unfold put
  have : ((enK E).any fun kv => decide (kv.1 = (Sum.inl i : Key))) = false := by
    rw [List.any_eq_false]
    intro kv m e
    obtain ⟨w, hw, rfl⟩ := List.mem_map.mp m
    have e' := of_decide_eq_true e
    exact h (by rw [← Sum.inl.inj e']; exact List.mem_map.mpr ⟨w, hw, rfl⟩)
  rw [this, if_neg Bool.false_ne_true]
  unfold enK
  rw [List.map_append]; rfl
section
variable {xs : List Str} {E : EN} {n : Int} {ds us : List D}
/-- the numbers -/
def NUMD (E : EN) : D := .tup (((srtE E).map Prod.fst).map .int)
theorem numbers_ok : g_Keeper__numbers [KO xs E n ds us] = .ok (NUMD E) [some (KO xs E n ds us)] := by
  refine run_rt (N := 1) (fx := 1) (m := m_Keeper__numbers) (ρ := [some (KO xs E n ds us)]) ?_ rfl
  have h1 : sortID (.lst ((E.map Prod.fst).map .int)) = some (.lst (((srtE E).map Prod.fst).map .int)) := by
    unfold sortID
    dsimp only
    rw [asInts_all, Option.bind_some, srtE_num]
  have h2 : tupleD (.lst (((srtE E).map Prod.fst).map .int)) = some (NUMD E) := rfl
  exact retV (op1V (opSV (opLV (fdV (i := 0) (j := 1) (ρ := [some (KO xs E n ds us)]) rfl rfl) (keysL_en E)) h1) h2)
theorem ix_en {i : Int} {p : Str × Str} (nd : (E.map Prod.fst).Nodup) (h : (i, p) ∈ E) : ixD (.dK (enK E)) (.int i) = some (prD p) := look_en nd h
/-- the half, both sides -/
theorem lc_half {ma : MA} {ρ : DEnv} {c0 x : Str} {fd : List (Str × D)} {i j : Nat} (nd : (E.map Prod.fst).Nodup) (hma : ma ρ = .ok ((srtE E).map fun e => .int e.1) ρ) (hl : E.length ≤ 1000) (hi : i < ρ.length) (hi0 : i ≠ 0) (h : ρ[0]? = some (some (.ob c0 fd))) (hj : fd[j]? = some (x, .dK (enK E))) :
    mLc ma (kName i) mYes (mFix 0 j (mVar i)) [i] ρ = .ok (.lst ((ordE E).map prD)) ρ := by
  have := lc_vmap (ma := ma) (elt := mFix 0 j (mVar i)) (i := i) (ρ := ρ) (R := srtE E) (fun e => .int e.1) (fun e => prD e.2) hma (by rw [srtE_len]; omega) hi fun e me => ?_
  · rw [this]
    unfold ordE
    rw [List.map_map]; rfl
  · have h' : (ρ.set i (some (D.int e.1)))[0]? = some (some (.ob c0 fd)) := by rw [List.getElem?_set_ne hi0]; exact h
    refine fixV h' hj ?_ (ix_en nd ((srtE_perm E).subset me) : _ = some (prD e.2))
    show R.of _ _ = _
    rw [List.getElem?_set_ne (Ne.symm hi0), List.getElem?_set_self hi]; rfl
end
theorem ne_strD (x y : Str) : neD (.str x) (.str y) = some (.bl (!decide (x = y))) := by
  obtain ⟨k, e, h⟩ := neD_pln (d := .str x) (e := .str y) (pln_str x) (pln_str y) (by rw [dep_str, dep_str]; exact Nat.zero_le _)
  rw [e]
  congr 3
  rw [Bool.eq_iff_iff, h, decide_eq_true_iff]
  exact ⟨fun e => by cases e; rfl, fun e => by rw [e]⟩
theorem nin_tupS (x : Str) (xs : List Str) : ninD (.str x) (.tup (xs.map .str)) = some (.bl (!decide (x ∈ xs))) := nin_strs x xs
theorem in_tupS (x : Str) (xs : List Str) : inD (.str x) (.lst (xs.map .str)) = some (.bl (decide (x ∈ xs))) := in_strs x xs
theorem eqs (x y : Str) : eqD (.str x) (.str y) = some (.bl (decide (x = y))) := by simp
theorem loopV {k : D → DEnv → Option DEnv} {s : MS} {t : MA} {ρ ρ1 : DEnv} {ds : List D} {r : R Fl} (h : t ρ = .ok ds ρ1) (e : mFor k s ds ρ1 = r) : mLoop k s t ρ = r := by rw [e_loop, h]; exact e
theorem forN {k : D → DEnv → Option DEnv} {s : MS} {ρ ρ1 ρ2 : DEnv} {d : D} {ds : List D} {r : R Fl} (h : k d ρ = some ρ1) (e : s ρ1 = .ok .nx ρ2) (c : mFor k s ds ρ2 = r) : mFor k s (d :: ds) ρ = r := by
  show (match k d ρ with | none => R.no | some ρ1 => (s ρ1).bind fun f ρ2 => match f with | .nx => mFor k s ds ρ2 | .rt z => .ok (.rt z) ρ2) = _
  rw [h]
  show (s ρ1).bind _ = _
  rw [e]; exact c
theorem forX {k : D → DEnv → Option DEnv} {s : MS} {ρ ρ1 ρ2 : DEnv} {d : D} {ds : List D} {z : Ex} (h : k d ρ = some ρ1) (e : s ρ1 = .ex z ρ2) : mFor k s (d :: ds) ρ = .ex z ρ2 := by
  show (match k d ρ with | none => R.no | some ρ1 => (s ρ1).bind fun f ρ2 => match f with | .nx => mFor k s ds ρ2 | .rt z => .ok (.rt z) ρ2) = _
  rw [h]
  show (s ρ1).bind _ = _
  rw [e]; rfl
theorem forR {k : D → DEnv → Option DEnv} {s : MS} {ρ ρ1 ρ2 : DEnv} {d z : D} {ds : List D} (h : k d ρ = some ρ1) (e : s ρ1 = .ok (.rt z) ρ2) : mFor k s (d :: ds) ρ = .ok (.rt z) ρ2 := by
  show (match k d ρ with | none => R.no | some ρ1 => (s ρ1).bind fun f ρ2 => match f with | .nx => mFor k s ds ρ2 | .rt z => .ok (.rt z) ρ2) = _
  rw [h]
  show (s ρ1).bind _ = _
  rw [e]; rfl
section
variable {xs : List Str} {E : EN} {n : Int} {ds us : List D}
theorem num_map : ((srtE E).map Prod.fst).map D.int = (srtE E).map fun e => .int e.1 := by rw [List.map_map]; rfl
theorem half_ok (nd : (E.map Prod.fst).Nodup) (hl : E.length ≤ 60) : g_Keeper__half [KO xs E n ds us] = .ok (.tup [NT xs, ssD (ordE E)]) [some (KO xs E n ds us)] := by
  refine run_rt (N := 2) (fx := 1) (m := m_Keeper__half) (ρ := [some (KO xs E n ds us), none]) (retV ?_) rfl
  have c1 := call1V (i := 0) (n := 0) (g := g_Keeper__numbers) (ma := mNil) (ρ := [some (KO xs E n ds us), none]) rfl rfl rfl rfl (numbers_ok (xs := xs) (E := E) (n := n) (ds := ds) (us := us))
  have c2 : mTs (mCall1 0 0 g_Keeper__numbers mNil) [some (KO xs E n ds us), none] = .ok ((srtE E).map fun e => .int e.1) [some (KO xs E n ds us), none] := by
    rw [← num_map]
    exact ts_val c1
  have c3 := lc_half (i := 1) (j := 1) (ρ := [some (KO xs E n ds us), none]) nd c2 (by omega) (Nat.lt_succ_self 1) (by decide) rfl rfl
  exact tup2_val (fdV (i := 0) (j := 0) rfl rfl) (op1V c3 (rfl : tupleD _ = some (ssD (ordE E))))
theorem sortK_en (hl : E.length < 64) : sortKD (.dK (enK E)) = some (.lst ((srtE E).map fun e => .int e.1)) := by
  unfold sortKD
  dsimp only
  rw [keysI_en, Option.bind_some, if_pos (by rw [List.length_map]; exact hl), ← srtE_num, num_map]
theorem lhalf_ok {k : D} (nd : (E.map Prod.fst).Nodup) (hl : E.length ≤ 60) : g__law_half_of [SO xs k E n ds us] = .ok (.tup [NT xs, ssD (ordE E)]) [some (SO xs k E n ds us)] := by
  refine run_rt (N := 2) (fx := 1) (m := m__law_half_of) (ρ := [some (SO xs k E n ds us), none]) (retV ?_) rfl
  have c1 := opLV (f := sortKD) (fdV (i := 0) (j := 2) (ρ := [some (SO xs k E n ds us), none]) rfl rfl) (sortK_en (E := E) (by omega))
  have c2 : mLs (mOpL sortKD (mFd 0 2)) [some (SO xs k E n ds us), none] = .ok ((srtE E).map fun e => .int e.1) [some (SO xs k E n ds us), none] := ls_val c1
  have c3 := lc_half (i := 1) (j := 2) (ρ := [some (SO xs k E n ds us), none]) nd c2 (by omega) (Nat.lt_succ_self 1) (by decide) rfl rfl
  exact tup2_val (fdV (i := 0) (j := 0) rfl rfl) (op1V c3 (rfl : tupleD _ = some (ssD (ordE E))))
/-- the first of two names that is none of xs -/
def odd2 (xs : List Str) (a b : Str) : Option Str := if a ∈ xs then (if b ∈ xs then none else some b) else some a
abbrev xNm (a : Str) : Ex := ⟨"NoName", [("name", .str a)]⟩
theorem ask_step {ρ : DEnv} {c : Str} (h0 : ρ[0]? = some (some (KO xs E n ds us))) (h3 : ρ[3]? = some (some (.str c))) :
    (c ∈ xs → mIfS (mTest (mOp2 ninD (mV (mVar 3)) (mV (mFd 0 0)))) (mRaise "NoName" ["name"] (mCons (mVar 3) mNil)) mNx ρ = .ok .nx ρ) ∧
    (c ∉ xs → mIfS (mTest (mOp2 ninD (mV (mVar 3)) (mV (mFd 0 0)))) (mRaise "NoName" ["name"] (mCons (mVar 3) mNil)) mNx ρ = .ex (xNm c) ρ) := by
  have v3 : mVar 3 ρ = .ok (.str c) ρ := by rw [e_var, h3]; rfl
  have t := testV (op2V v3 (fdV (i := 0) (j := 0) h0 rfl) (nin_tupS c xs))
  refine ⟨fun h => ?_, fun h => ?_⟩
  · rw [decide_eq_true h] at t
    exact ifV_F t rfl
  · rw [decide_eq_false h] at t
    exact ifV_T t (raiseV (consV v3 rfl) rfl)
theorem ask_ok {a b : Str} : (∀ c, odd2 xs a b = some c → gX_Keeper__ask_names [KO xs E n ds us, .str a, .str b] = .ex (xNm c) [some (KO xs E n ds us)]) ∧
    (odd2 xs a b = none → gX_Keeper__ask_names [KO xs E n ds us, .str a, .str b] = .ok .non [some (KO xs E n ds us)]) := by
  have lp := fun (r : R Fl) (e : mFor (kName 3) _ [.str a, .str b] [some (KO xs E n ds us), some (.str a), some (.str b), none] = r) => loopV (k := kName 3) (s := mIfS (mTest (mOp2 ninD (mV (mVar 3)) (mV (mFd 0 0)))) (mRaise "NoName" ["name"] (mCons (mVar 3) mNil)) mNx) (t := mTs (mTup (mCons (mVar 1) (mCons (mVar 2) mNil)))) (ρ := [some (KO xs E n ds us), some (.str a), some (.str b), none]) (r := r) (ts_val (tup2_val rfl rfl)) e
  obtain ⟨a1, a2⟩ := ask_step (xs := xs) (E := E) (n := n) (ds := ds) (us := us) (ρ := [some (KO xs E n ds us), some (.str a), some (.str b), some (.str a)]) (c := a) rfl rfl
  obtain ⟨b1, b2⟩ := ask_step (xs := xs) (E := E) (n := n) (ds := ds) (us := us) (ρ := [some (KO xs E n ds us), some (.str a), some (.str b), some (.str b)]) (c := b) rfl rfl
  unfold odd2
  by_cases ha : a ∈ xs
  · rw [if_pos ha]
    by_cases hb : b ∈ xs
    · rw [if_pos hb]
      refine ⟨fun c z => (by cases z), fun _ => ?_⟩
      exact runX_nx (N := 4) (fx := 1) (m := m_Keeper__ask_names) (lp _ (forN rfl (a1 ha) (forN rfl (b1 hb) rfl))) rfl
    · rw [if_neg hb]
      refine ⟨fun c z => ?_, fun z => (by cases z)⟩
      cases z
      exact runX_ex (N := 4) (fx := 1) (m := m_Keeper__ask_names) (lp _ (forN rfl (a1 ha) (forX rfl (b2 hb)))) rfl
  · rw [if_neg ha]
    refine ⟨fun c z => ?_, fun z => (by cases z)⟩
    cases z
    exact runX_ex (N := 4) (fx := 1) (m := m_Keeper__ask_names) (lp _ (forX rfl (a2 ha))) rfl
end
theorem seq_at {i : Int} {n : Nat} (h0 : 0 ≤ i) (h1 : i < n) : seqIndex? i n = some i.toNat := by
  unfold seqIndex?
  simp only []
  have h2 : ¬ i < 0 := by omega
  simp [h2]
  omega
/-! ### ways -/
theorem sat_seqR {m n : MS} {ρ : DEnv} {Q : Fl → DEnv → Prop} (h : Sat (m ρ) fun f ρ1 => (f = .nx ∧ Sat (n ρ1) Q) ∨ ∃ z, f = .rt z ∧ Q (.rt z) ρ1) : Sat (mSeq m n ρ) Q := by
  obtain ⟨f, ρ1, e, h⟩ := h
  rw [e_seq, e]
  rcases h with ⟨rfl, h⟩ | ⟨z, rfl, h⟩
  · exact h
  · exact ⟨_, _, rfl, h⟩
theorem pop_first (x : D) (xs : List D) : popD (x :: xs) [.int 0] = some (x, xs) := by
  show (if -(2 ^ 63) ≤ (0 : Int) ∧ (0 : Int) < 2 ^ 63 then (seqIndex? 0 (x :: xs).length).bind fun k => ((x :: xs)[k]?).bind fun d => some (d, (x :: xs).eraseIdx k) else none) = _
  rw [if_pos (by decide), seq_at (by decide) (by rw [List.length_cons]; omega)]
  rfl
def sel (ss : SS) (p : List Nat) : SS := p.map fun k => ss.getD k (Str.empty, Str.empty)
theorem sel_snoc (ss : SS) (p : List Nat) {k : Nat} {s : Str × Str} (h : ss[k]? = some s) : sel ss (p ++ [k]) = sel ss p ++ [s] := by
  unfold sel
  rw [List.map_append, List.map_singleton, List.getD_eq_getElem?_getD, h]; rfl
structure Path (ss : SS) (b : Str) (p : List Nat) (n : Str) : Prop where
  lt : ∀ k ∈ p, k < ss.length
  ch : b :: (sel ss p).map Prod.snd = (sel ss p).map Prod.fst ++ [n]
  nd : ((sel ss p).map Prod.fst ++ [n]).Nodup
abbrev keysW (ws : List (Str × List Nat)) : List Str := ws.map Prod.fst
structure BfsI (ss : SS) (b : Str) (ws : List (Str × List Nat)) : Prop where
  nd : (keysW ws).Nodup
  hb : b ∈ keysW ws
  pa : ∀ w ∈ ws, Path ss b w.2 w.1 ∧ ∀ x ∈ (sel ss w.2).map Prod.fst, x ∈ keysW ws
  rc : ∀ w ∈ ws, w.1 = b ∨ Rch ss b w.1
theorem BfsI.len {ss : SS} {b : Str} {ws : List (Str × List Nat)} (h : BfsI ss b ws) : ws.length ≤ ss.length + 1 := by
  have := nodup_le (ys := b :: ss.map Prod.snd) h.nd fun x m => by
    obtain ⟨w, hw, rfl⟩ := List.mem_map.mp m
    rcases h.rc w hw with e | e
    · rw [e]; simp
    · exact List.mem_cons_of_mem _ e.snd
  simpa using this
theorem BfsI.plen {ss : SS} {b : Str} {ws : List (Str × List Nat)} (h : BfsI ss b ws) {w : Str × List Nat} (hw : w ∈ ws) : w.2.length ≤ ss.length + 1 := by
  obtain ⟨p1, p2⟩ := h.pa w hw
  have := nodup_le (ys := keysW ws) (List.nodup_append.mp p1.nd).1 p2
  have l1 := h.len
  simp [sel] at this
  omega
/-! ### ways by numbers -/
def pthN (ns : List Int) (p : List Nat) : D := .tup (p.map fun k => .int (ns.getD k 0))
def wsN (ns : List Int) (ws : List (Str × List Nat)) : List (Key × D) := ws.map fun w => (.inr w.1, pthN ns w.2)
theorem look_wsN {ns : List Int} {x : Str} : ∀ {ws : List (Str × List Nat)}, (x ∉ keysW ws → look (wsN ns ws) (.inr x) = none) ∧ ∀ p, (keysW ws).Nodup → (x, p) ∈ ws → look (wsN ns ws) (.inr x) = some (pthN ns p)
  | [] => ⟨fun _ => rfl, fun p _ h => by simp at h⟩
  | (y, q) :: ws => by
    obtain ⟨h1, h2⟩ := look_wsN (ns := ns) (x := x) (ws := ws)
    have step : look (wsN ns ((y, q) :: ws)) (.inr x) = if y = x then some (pthN ns q) else look (wsN ns ws) (.inr x) := by
      unfold look wsN
      rw [List.map_cons, List.find?_cons]
      by_cases e : y = x
      · subst e; simp
      · have : decide ((Sum.inr y : Key) = .inr x) = false := decide_eq_false fun z => e (Sum.inr.inj z)
        rw [this, if_neg e]
    refine ⟨fun h => ?_, fun p nd h => ?_⟩
    · have hn : ¬ y = x := fun e => h (by rw [← e]; simp)
      rw [step, if_neg hn]
      exact h1 fun m => h (List.mem_cons_of_mem _ m)
    · obtain ⟨n1, n2⟩ := List.nodup_cons.mp nd
      rcases List.mem_cons.mp h with e | h
      · cases e
        rw [step, if_pos rfl]
      · have hn : ¬ y = x := fun e => n1 (by rw [e]; exact List.mem_map.mpr ⟨(x, p), h, rfl⟩)
        rw [step, if_neg hn]
        exact h2 p n2 h
theorem put_wsN {ns : List Int} {x : Str} {p : List Nat} {ws : List (Str × List Nat)} (h : x ∉ keysW ws) (hl : ws.length < 16777216) : putD (.dK (wsN ns ws)) (.str x) (pthN ns p) = some (.dK (wsN ns (ws ++ [(x, p)]))) := by
  show (if (wsN ns ws).length < 16777216 then some (D.dK (put (wsN ns ws) (.inr x) (pthN ns p))) else none) = _
  rw [if_pos (by unfold wsN; rw [List.length_map]; exact hl)]
  unfold put
  have : ((wsN ns ws).any fun kv => decide (kv.1 = (Sum.inr x : Key))) = false := by
    rw [List.any_eq_false]
    intro kv m e
    obtain ⟨w, hw, rfl⟩ := List.mem_map.mp m
    have e' := of_decide_eq_true e
    exact h (by rw [← Sum.inr.inj e']; exact List.mem_map.mpr ⟨w, hw, rfl⟩)
  rw [this, if_neg Bool.false_ne_true]
  unfold wsN
  rw [List.map_append]; rfl
/-- what lead tells of two names of xs -/
inductive LeadR (E : EN) (a b : Str) : D → Prop
  | same (h : a = b) : LeadR E a b .non
  | none (h : a ≠ b) (k : ¬ Rch (ordE E) a b) : LeadR E a b .non
  | some (h : a ≠ b) (p : List Nat) (hp : p ≠ []) (pa : Path (ordE E) a p b) (rc : Rch (ordE E) a b) (pl : p.length ≤ 61) : LeadR E a b (pthN ((srtE E).map Prod.fst) p)
abbrev Lb75 (k : D) (a b : Str) (ns : List Int) (ws : List (Str × List Nat)) (ls : List Str) (h j o t : Option D) : DEnv := [some k, some (.str a), some (.str b), some (.dK (wsN ns ws)), some (.lst (ls.map .str)), h, j, o, t]
theorem sat_ifN {c : MT} {m : MS} {ρ ρ1 : DEnv} {Q : Fl → DEnv → Prop} (h : c ρ = .ok false ρ1) (k : Q .nx ρ1) : Sat (mIfS c m mNx ρ) Q := ⟨.nx, ρ1, by rw [e_ifS, h]; rfl, k⟩
theorem sat_loop75 {k : D → DEnv → Option DEnv} {body : MS} {ma : MA} {ds : List D} {ρ ρ1 : DEnv} {Q : Fl → DEnv → Prop} (h : ma ρ = .ok ds ρ1) (s : Sat (mFor k body ds ρ1) Q) : Sat (mLoop k body ma ρ) Q := by
  rw [e_loop, h]; exact s
section
variable {xs : List Str} {E : EN} {n : Int} {ds us : List D}
theorem lead_ok {a b : Str} (nd : (E.map Prod.fst).Nodup) (hl : E.length ≤ 60) (ho : odd2 xs a b = none) : ∃ v, gX_Keeper__lead [KO xs E n ds us, .str a, .str b] = .ok v [some (KO xs E n ds us)] ∧ LeadR E a b v := by
  have hls : (ordE E).length ≤ 60 := by rw [ordE_len]; exact hl
  have hlen0 : (srtE E).length = (ordE E).length := by unfold ordE; rw [List.length_map]
  generalize hns : (srtE E).map Prod.fst = ns
  have hnl : ns.length = (ordE E).length := by rw [← hns, List.length_map]; exact hlen0
  have at_ : ∀ i q, (ordE E)[i]? = some q → ∃ j, (srtE E)[i]? = some (j, q) ∧ ns.getD i 0 = j := fun i q h => by
    unfold ordE at h
    rw [List.getElem?_map] at h
    obtain ⟨⟨j, q'⟩, h1, rfl⟩ := Option.map_eq_some_iff.mp h
    refine ⟨j, h1, ?_⟩
    rw [← hns, List.getD_eq_getElem?_getD, List.getElem?_map, h1]; rfl
  have main : Sat (m_Keeper__lead ([some (KO xs E n ds us), some (.str a), some (.str b)] ++ List.replicate 6 none)) fun f ρ => ∃ v, f = .rt v ∧ ρ.take 1 = [some (KO xs E n ds us)] ∧ LeadR E a b v := by
    unfold m_Keeper__lead
    have ask := call1V (i := 0) (n := 2) (g := gX_Keeper__ask_names) (ma := mCons (mVar 1) (mCons (mVar 2) mNil)) (ρ := [some (KO xs E n ds us), some (.str a), some (.str b)] ++ List.replicate 6 none) rfl rfl rfl rfl ((ask_ok (xs := xs) (E := E) (n := n) (ds := ds) (us := us) (a := a) (b := b)).2 ho)
    refine sat_seq (sat_drop (sat_of ask ⟨rfl, ?_⟩))
    refine sat_seq (sat_set (sat_of (a := .dK (wsN ns [(a, [])])) (ρ := [some (KO xs E n ds us), some (.str a), some (.str b)] ++ List.replicate 6 none) rfl ⟨rfl, ?_⟩))
    refine sat_seq (sat_set (sat_of (a := .lst [.str a]) (ρ := [some (KO xs E n ds us), some (.str a), some (.str b), some (.dK (wsN ns [(a, [])])), none, none, none, none, none]) rfl ⟨rfl, ?_⟩))
    change Sat (mSeq _ _ (Lb75 (KO xs E n ds us) a b ns [(a, [])] [a] none none none none)) _
    have I0 : BfsI (ordE E) a [(a, [])] := ⟨by simp, by simp, fun w m => by
      cases List.mem_singleton.mp m
      exact ⟨⟨by simp, rfl, by simp [sel]⟩, by simp [sel]⟩, fun w m => by cases List.mem_singleton.mp m; exact .inl rfl⟩
    refine sat_seq (sat_while (I := fun M ρ => ∃ (ws : List (Str × List Nat)) (ls : List Str) (h j o t : Option D), ρ = Lb75 (KO xs E n ds us) a b ns ws ls h j o t ∧ BfsI (ordE E) a ws ∧ (∀ x ∈ ls, x ∈ keysW ws) ∧ (∀ x ∈ keysW ws, x ∉ ls → ∀ m, (x, m) ∈ ordE E → m ∈ keysW ws) ∧
        M + ws.length = (ordE E).length + 1 + ls.length ∧ ls.length ≤ ws.length) ?_ ((ordE E).length + 1) _ ⟨[(a, [])], [a], none, none, none, none, rfl, I0, by simp, by simp, by simp, by simp⟩)
    rintro M ρ ⟨ws, ls, h, j, o, t, rfl, I, hw, hc, hM, hL⟩
    refine sat_of (a := decide (0 < (ls.length : Int))) (ρ := Lb75 (KO xs E n ds us) a b ns ws ls h j o t) (by simp [lenD]) ?_
    cases ls with
    | nil =>
      rw [if_neg (by simp)]
      refine ⟨rfl, ?_⟩
      have cl : ∀ x ∈ keysW ws, ∀ m, (x, m) ∈ ordE E → m ∈ keysW ws := fun x hx m em => hc x hx (by simp) m em
      have all : ∀ y, Rch (ordE E) a y → y ∈ keysW ws := fun y r => by
        induction r with
        | one em => exact cl _ I.hb _ em
        | snoc _ em ih => exact cl _ ih _ em
      have t0 := test_val (op2_val (f := eqD) (ma := mVar 1) (mb := mVar 2) (ρ := Lb75 (KO xs E n ds us) a b ns ws [] h j o t) rfl rfl (eqs a b))
      by_cases hab : a = b
      · rw [decide_eq_true hab] at t0
        refine sat_seqR (sat_ifT t0 (sat_ret (sat_of (a := .non) (ρ := Lb75 (KO xs E n ds us) a b ns ws [] h j o t) rfl (.inr ⟨_, rfl, _, rfl, rfl, .same hab⟩))))
      · rw [decide_eq_false hab] at t0
        refine sat_seq (sat_ifN t0 ⟨rfl, ?_⟩)
        by_cases hbk : b ∈ keysW ws
        · obtain ⟨⟨b', p⟩, hwp, eb⟩ := List.mem_map.mp hbk
          have eb : b' = b := eb
          subst eb
          have lk := (look_wsN (ns := ns)).2 p I.nd hwp
          obtain ⟨pa, pk⟩ := I.pa _ hwp
          have pl : p.length ≤ (ordE E).length + 1 := I.plen hwp
          have rc : Rch (ordE E) a b' := (I.rc _ hwp).resolve_left fun z => hab z.symm
          have hp : p ≠ [] := fun z => by
            subst z
            have := pa.ch
            simp [sel] at this
            exact hab this
          refine sat_ret (sat_of (a := pthN ns p) (ρ := Lb75 (KO xs E n ds us) a b' ns ws [] h j o t) (by simp [mGet, D.isDc, getD3, keyK, lk]) ⟨_, rfl, rfl, ?_⟩)
          rw [← hns]
          exact .some hab p hp pa rc (by omega)
        · have lk := (look_wsN (ns := ns)).1 hbk
          exact sat_ret (sat_of (a := .non) (ρ := Lb75 (KO xs E n ds us) a b ns ws [] h j o t) (by simp [mGet, D.isDc, getD3, keyK, lk]) ⟨_, rfl, rfl, .none hab fun r => hbk (all b r)⟩)
    | cons x ls =>
      rw [if_pos (by simp)]
      have hp0 : popD ((x :: ls).map .str) [.int 0] = some (.str x, ls.map .str) := pop_first _ _
      refine sat_seq (sat_set (sat_mtL (i := 4) rfl (sat_cons (sat_of rfl (sat_nil ⟨_, _, _, rfl, hp0, rfl, ?_⟩)))))
      change Sat (mLoop _ _ _ (Lb75 (KO xs E n ds us) a b ns ws ls (some (.str x)) j o t)) _
      have hxk : x ∈ keysW ws := hw x List.mem_cons_self
      rw [List.length_cons] at hM hL
      have lw0 := I.len
      have it : mTs (mCall1 0 0 g_Keeper__numbers mNil) (Lb75 (KO xs E n ds us) a b ns ws ls (some (.str x)) j o t) = .ok (((srtE E).map fun e => .int e.1)) (Lb75 (KO xs E n ds us) a b ns ws ls (some (.str x)) j o t) := by
        rw [← num_map]
        exact ts_val (call1V (i := 0) (n := 0) (g := g_Keeper__numbers) (ma := mNil) rfl rfl rfl rfl (numbers_ok (xs := xs) (E := E) (n := n) (ds := ds) (us := us)))
      refine sat_loop75 it (sat_for ((srtE E).map fun e => .int e.1) (I := fun i ρ => ∃ (ws : List (Str × List Nat)) (ls : List Str) (j o t : Option D), ρ = Lb75 (KO xs E n ds us) a b ns ws ls (some (.str x)) j o t ∧ BfsI (ordE E) a ws ∧ (∀ x ∈ ls, x ∈ keysW ws) ∧ x ∈ keysW ws ∧
          (∀ y ∈ keysW ws, y ∉ ls → y ≠ x → ∀ m, (y, m) ∈ ordE E → m ∈ keysW ws) ∧ (∀ j m, j < i → (ordE E)[j]? = some (x, m) → m ∈ keysW ws) ∧ M - 1 + ws.length = (ordE E).length + 1 + ls.length ∧ ls.length < ws.length) ?_ _
          ⟨ws, ls, j, o, t, rfl, I, fun y m => hw y (List.mem_cons_of_mem _ m), hxk, fun y hy hn hne m em => hc y hy (by simp [hn, hne]) m em, fun j m hj => absurd hj (Nat.not_lt_zero _), by omega, by omega⟩ ?_)
      · rintro i d ρ hd ⟨ws, ls, j, o, t, rfl, I, hw2, hx2, hc2, hp2, hM', hL'⟩
        rw [List.getElem?_map] at hd
        obtain ⟨⟨num, c1, c⟩, hs1, rfl⟩ := Option.map_eq_some_iff.mp hd
        have hs : (ordE E)[i]? = some (c1, c) := by unfold ordE; rw [List.getElem?_map, hs1]; rfl
        have hnum : ns.getD i 0 = num := by
          obtain ⟨j', h1, h2⟩ := at_ i _ hs
          rw [hs1] at h1; cases h1; exact h2
        have hmem : (c1, c) ∈ ordE E := List.mem_of_getElem? hs
        have hE : (num, c1, c) ∈ E := (srtE_perm E).subset (List.mem_of_getElem? hs1)
        have hi : i < (ordE E).length := (List.getElem?_eq_some_iff.mp hs).1
        refine ⟨Lb75 (KO xs E n ds us) a b ns ws ls (some (.str x)) (some (.int num)) o t, rfl, ?_⟩
        have fx : mFix 0 1 (mVar 6) (Lb75 (KO xs E n ds us) a b ns ws ls (some (.str x)) (some (.int num)) o t) = .ok (prD (c1, c)) (Lb75 (KO xs E n ds us) a b ns ws ls (some (.str x)) (some (.int num)) o t) := fixV rfl rfl rfl (ix_en nd hE)
        refine sat_seq (sat_of (a := .nx) (ρ := Lb75 (KO xs E n ds us) a b ns ws ls (some (.str x)) (some (.int num)) (some (.str c1)) (some (.str c))) (by rw [e_asg, fx]; rfl) ⟨rfl, ?_⟩)
        obtain ⟨⟨x', p⟩, hwp, ex⟩ := List.mem_map.mp hx2
        have ex : x' = x := ex
        subst ex
        have lk := (look_wsN (ns := ns)).2 p I.nd hwp
        obtain ⟨pa, pk⟩ := I.pa _ hwp
        have pl : p.length ≤ (ordE E).length + 1 := I.plen hwp
        have lw := I.len
        have hadd : addD (pthN ns p) (.tup [.int num]) = some (pthN ns (p ++ [i])) := by
          show (if (p.map fun k => D.int (ns.getD k 0)).length + [D.int num].length ≤ 16777216 then some (D.tup (p.map (fun k => D.int (ns.getD k 0)) ++ [D.int num])) else _) = _
          rw [if_pos (by rw [List.length_map, List.length_singleton]; omega)]
          unfold pthN
          rw [List.map_append, List.map_singleton, hnum]
        have hix : ixD (.dK (wsN ns ws)) (.str x') = some (pthN ns p) := lk
        have tE := test_val (op2_val (f := eqD) (ma := mVar 7) (mb := mVar 5) (ρ := Lb75 (KO xs E n ds us) a b ns ws ls (some (.str x')) (some (.int num)) (some (.str c1)) (some (.str c))) rfl rfl (eqs c1 x'))
        by_cases hax : c1 = x'
        · have hmem' : (x', c) ∈ ordE E := hax ▸ hmem
          have hs' : (ordE E)[i]? = some (x', c) := hax ▸ hs
          rw [decide_eq_true hax] at tE
          have rcx : Rch (ordE E) a c := by
            rcases I.rc _ hwp with q | q
            · have q : x' = a := q
              rw [← q]; exact .one hmem'
            · exact .snoc q hmem'
          have e1 : (sel (ordE E) (p ++ [i])).map Prod.fst = (sel (ordE E) p).map Prod.fst ++ [x'] := by rw [sel_snoc (ordE E) p hs', List.map_append]; rfl
          have e2 : (sel (ordE E) (p ++ [i])).map Prod.snd = (sel (ordE E) p).map Prod.snd ++ [c] := by rw [sel_snoc (ordE E) p hs', List.map_append]; rfl
          have lt' : ∀ k ∈ p ++ [i], k < (ordE E).length := fun k m => by
            rcases List.mem_append.mp m with m | m
            · exact pa.lt k m
            · cases List.mem_singleton.mp m; exact hi
          by_cases hck : c ∈ keysW ws
          · obtain ⟨⟨c', pc⟩, hwc, ec⟩ := List.mem_map.mp hck
            have ec : c' = c := ec
            subst ec
            have lkc := (look_wsN (ns := ns)).2 pc I.nd hwc
            have hni : ninD (.str c') (.dK (wsN ns ws)) = some (.bl false) := by
              show ((some (look (wsN ns ws) (.inr c')).isSome).bind fun k => some (D.bl (!k))) = _
              rw [lkc]; rfl
            have tN : mTest (mOp2 ninD (mV (mVar 8)) (mS 3)) (Lb75 (KO xs E n ds us) a b ns ws ls (some (.str x')) (some (.int num)) (some (.str c1)) (some (.str c'))) = .ok false (Lb75 (KO xs E n ds us) a b ns ws ls (some (.str x')) (some (.int num)) (some (.str c1)) (some (.str c'))) := by simp [hni]
            refine sat_ifN (and_tf tE tN) (.inl ⟨rfl, ws, ls, _, _, _, rfl, I, hw2, hx2, hc2, fun j m hj hjm => ?_, hM', hL'⟩)
            by_cases hji : j = i
            · subst hji; rw [hs'] at hjm; cases hjm; exact hck
            · exact hp2 j m (by omega) hjm
          · have hni : ninD (.str c) (.dK (wsN ns ws)) = some (.bl true) := by
              show ((some (look (wsN ns ws) (.inr c)).isSome).bind fun k => some (D.bl (!k))) = _
              rw [(look_wsN (ns := ns)).1 hck]; rfl
            have tN : mAnd (mTest (mOp2 eqD (mV (mVar 7)) (mV (mVar 5)))) (mTest (mOp2 ninD (mV (mVar 8)) (mS 3))) (Lb75 (KO xs E n ds us) a b ns ws ls (some (.str x')) (some (.int num)) (some (.str c1)) (some (.str c))) = .ok true (Lb75 (KO xs E n ds us) a b ns ws ls (some (.str x')) (some (.int num)) (some (.str c1)) (some (.str c))) := by
              rw [e_and, tE, R.bind_ok, if_pos rfl]; simp [hni]
            have hput := put_wsN (ns := ns) (p := p ++ [i]) hck (by omega)
            have kk : keysW (ws ++ [(c, p ++ [i])]) = keysW ws ++ [c] := by simp [keysW]
            have I' : BfsI (ordE E) a (ws ++ [(c, p ++ [i])]) := ⟨by rw [kk]; exact nd_snoc I.nd hck, by rw [kk]; exact List.mem_append_left _ I.hb, fun w m => by
              rcases List.mem_append.mp m with m | m
              · obtain ⟨q1, q2⟩ := I.pa w m
                exact ⟨q1, fun y my => by rw [kk]; exact List.mem_append_left _ (q2 y my)⟩
              · cases List.mem_singleton.mp m
                have on : ∀ y ∈ (sel (ordE E) (p ++ [i])).map Prod.fst, y ∈ keysW ws := fun y my => by
                  rw [e1] at my
                  rcases List.mem_append.mp my with my | my
                  · exact pk y my
                  · cases List.mem_singleton.mp my; exact hx2
                refine ⟨⟨lt', ?_, ?_⟩, fun y my => by rw [kk]; exact List.mem_append_left _ (on y my)⟩
                · rw [e1, e2, ← List.cons_append, pa.ch]
                · exact nd_snoc (by rw [e1]; exact pa.nd) fun z => hck (on c z), fun w m => by
              rcases List.mem_append.mp m with m | m
              · exact I.rc w m
              · cases List.mem_singleton.mp m; exact .inr rcx⟩
            have e5 : appendD (ls.map .str) [.str c] = some (.non, (ls ++ [c]).map .str) := by
              rw [append_ok (by rw [List.length_map]; omega), List.map_append]; rfl
            have pv : mPut 3 (mVar 8) (mOp2 addD (mV (mOp2 ixD (mS 3) (mV (mVar 5)))) (mV (mTup (mCons (mVar 6) mNil)))) (Lb75 (KO xs E n ds us) a b ns ws ls (some (.str x')) (some (.int num)) (some (.str c1)) (some (.str c))) = .ok .nx (Lb75 (KO xs E n ds us) a b ns (ws ++ [(c, p ++ [i])]) ls (some (.str x')) (some (.int num)) (some (.str c1)) (some (.str c))) := by
              have v1 : mOp2 ixD (mS 3) (mV (mVar 5)) (Lb75 (KO xs E n ds us) a b ns ws ls (some (.str x')) (some (.int num)) (some (.str c1)) (some (.str c))) = .ok (pthN ns p) (Lb75 (KO xs E n ds us) a b ns ws ls (some (.str x')) (some (.int num)) (some (.str c1)) (some (.str c))) := by simp [hix]
              have v2 := op2_val (f := addD) (mb := mTup (mCons (mVar 6) mNil)) v1 rfl hadd
              rw [e_put, v2]
              simp only [R.bind_ok]
              show (R.of (putD (.dK (wsN ns ws)) (.str c) (pthN ns (p ++ [i]))) _).bind _ = _
              rw [hput]; rfl
            refine sat_ifT tN (sat_seq (sat_of pv ⟨rfl, ?_⟩))
            refine sat_drop (sat_mtL (i := 4) rfl (sat_cons (sat_of (a := .str c) rfl (sat_nil ⟨_, _, _, rfl, e5, .inl ⟨rfl, ws ++ [(c, p ++ [i])], ls ++ [c], _, _, _, rfl, I', fun y m => ?_, ?_, fun y hy hn hne m em => ?_, fun j m hj hjm => ?_, ?_, ?_⟩⟩))))
            · rw [kk]
              rcases List.mem_append.mp m with m | m
              · exact List.mem_append_left _ (hw2 y m)
              · exact List.mem_append_right _ m
            · rw [kk]; exact List.mem_append_left _ hx2
            · have hn' : y ∉ ls ∧ y ≠ c := by simpa using hn
              rw [kk] at hy ⊢
              rcases List.mem_append.mp hy with q | q
              · exact List.mem_append_left _ (hc2 y q hn'.1 hne m em)
              · exact absurd (List.mem_singleton.mp q) hn'.2
            · rw [kk]
              by_cases hji : j = i
              · subst hji; rw [hs'] at hjm; cases hjm; exact List.mem_append_right _ (by simp)
              · exact List.mem_append_left _ (hp2 j m (by omega) hjm)
            · simp only [List.length_append, List.length_singleton]; omega
            · simp only [List.length_append, List.length_singleton]; omega
        · rw [decide_eq_false hax] at tE
          refine sat_ifN (and_f tE) (.inl ⟨rfl, ws, ls, _, _, _, rfl, I, hw2, hx2, hc2, fun j m hj hjm => ?_, hM', hL'⟩)
          by_cases hji : j = i
          · subst hji; rw [hs] at hjm; cases hjm; exact absurd rfl hax
          · exact hp2 j m (by omega) hjm
      · rintro ρ ⟨ws, ls, j, o, t, rfl, I, hw, hx, hc, hp, hM', hL'⟩
        have hlen : ((srtE E).map fun e => D.int e.1).length = (ordE E).length := by rw [List.length_map]; exact hlen0
        rw [hlen] at hp
        have lw := I.len
        refine .inl ⟨rfl, M - 1, by omega, ws, ls, _, j, o, t, rfl, I, hw, fun y hy hn m em => ?_, hM', by omega⟩
        by_cases hyx : y = x
        · subst hyx
          obtain ⟨j, hj⟩ := List.mem_iff_getElem?.mp em
          exact hp j m (List.getElem?_eq_some_iff.mp hj).1 hj
        · exact hc y hy hn hyx m em
  obtain ⟨f, ρ, e1, v, rfl, h1, h2⟩ := main
  exact ⟨v, runX_rt (N := 9) (fx := 1) (m := m_Keeper__lead) e1 h1, h2⟩
theorem lead_odd {a b c : Str} (ho : odd2 xs a b = some c) : gX_Keeper__lead [KO xs E n ds us, .str a, .str b] = .ex (xNm c) [some (KO xs E n ds us)] := by
  have ask := call1X (i := 0) (n := 2) (g := gX_Keeper__ask_names) (ma := mCons (mVar 1) (mCons (mVar 2) mNil)) (ρ := [some (KO xs E n ds us), some (.str a), some (.str b)] ++ List.replicate 6 none) rfl rfl rfl rfl ((ask_ok (xs := xs) (E := E) (n := n) (ds := ds) (us := us) (a := a) (b := b)).1 c ho)
  exact runX_ex (N := 9) (fx := 1) (m := m_Keeper__lead) (seqX (dropX ask)) rfl
end
theorem or_b {t u : MT} {ρ : DEnv} {b c : Bool} (h1 : t ρ = .ok b ρ) (h2 : b = false → u ρ = .ok c ρ) : mOr t u ρ = .ok (b || c) ρ := by
  rw [e_or, h1, R.bind_ok]
  cases b with
  | false => rw [if_neg Bool.false_ne_true, h2 rfl]; rfl
  | true => rfl
theorem andV_b {m n : ME} {ρ : DEnv} {b c : Bool} (h1 : m ρ = .ok (.bl b) ρ) (h2 : b = true → n ρ = .ok (.bl c) ρ) : mAndV m n ρ = .ok (.bl (b && c)) ρ := by
  rw [e_andV, h1, R.bind_ok, e_asB, R.bind_ok]
  cases b with
  | false => rfl
  | true => rw [if_pos rfl, h2 rfl]; rfl
theorem try_ok {i : Nat} {cs : List Str} {mb ms : MS} {ρ ρ1 : DEnv} {f : Fl} (h : mb ρ = .ok f ρ1) : mTry i cs mb ms ρ = .ok f ρ1 := by
  unfold mTry; rw [h]
theorem try_ex {i : Nat} {cs : List Str} {mb ms : MS} {ρ ρ1 ρ2 : DEnv} {f : Fl} {e : Ex} (h : mb ρ = .ex e ρ1) (hc : cs.contains e.c = true) (hs : ms (ρ1.set i (some (.ob e.c e.fs))) = .ok f ρ2) : mTry i cs mb ms ρ = .ok f (ρ2.set i none) := by
  unfold mTry; rw [h]; dsimp only; rw [if_pos hc, hs]
theorem ifX75 {c : MT} {m n : MS} {ρ ρ1 : DEnv} {z : Ex} (h : c ρ = .ex z ρ1) : mIfS c m n ρ = .ex z ρ1 := by rw [e_ifS, h]; rfl
theorem testX75 {m : ME} {ρ ρ1 : DEnv} {z : Ex} (h : m ρ = .ex z ρ1) : mTest m ρ = .ex z ρ1 := by rw [e_test, h]; rfl
theorem op2X75 {f : D → D → Option D} {m : ME} {b : MO} {ρ ρ1 : DEnv} {z : Ex} (h : m ρ = .ex z ρ1) : mOp2 f (mV m) b ρ = .ex z ρ1 := by rw [e_op2, e_V, h]; rfl
/-! ### deeds -/
abbrev deD (b : Bool) (i : Int) (p : Str × Str) : D := .tup [.bl b, .int i, prD p]
abbrev xCl (w : D) : Ex := ⟨"Clash", [("way", w)]⟩
abbrev xMn : Ex := ⟨"TooMany", [("word", .str "sayings")]⟩
abbrev xSy (d : D) : Ex := ⟨"NoSaying", [("number", d)]⟩
section
variable {xs : List Str} {E : EN} {n : Int} {ds us : List D}
theorem putD_en {i : Int} {p : Str × Str} (h : i ∉ E.map Prod.fst) (hl : E.length ≤ 1000) : putD (.dK (enK E)) (.int i) (prD p) = some (.dK (enK (E ++ [(i, p)]))) := by
  show (if (enK E).length < 16777216 then some (D.dK (put (enK E) (.inl i) (prD p))) else none) = _
  rw [if_pos (by unfold enK; rw [List.length_map]; omega), put_en h]
theorem lay_ok {i : Int} {p : Str × Str} (h : i ∉ E.map Prod.fst) (hl : E.length ≤ 1000) : g_Keeper__lay [KO xs E n ds us, deD true i p] = .ok .non [some (KO xs (E ++ [(i, p)]) (i + 1) ds us)] := by
  refine run_nx (N := 5) (fx := 1) (m := m_Keeper__lay) (ρ := [some (KO xs (E ++ [(i, p)]) (i + 1) ds us), some (deD true i p), some (.bl true), some (.int i), some (prD p)]) ?_ rfl
  refine seqV (ρ1 := [some (KO xs E n ds us), some (deD true i p), some (.bl true), some (.int i), some (prD p)]) rfl (ifV_T rfl ?_)
  refine seqV (fputV (i := 0) (j := 1) rfl rfl rfl rfl (putD_en h hl)) ?_
  exact fsetV (i := 0) (j := 2) (d := .int (i + 1)) (ρ1 := [some (KO xs (E ++ [(i, p)]) n ds us), some (deD true i p), some (.bl true), some (.int i), some (prD p)]) (op2V (f := addD) rfl rfl (d_add _ _)) rfl (by show 2 < 5; decide)
theorem do_ok {i : Int} {p : Str × Str} (h : i ∉ E.map Prod.fst) (hl : E.length ≤ 1000) (hd : ds.length ≤ 1000) : g_Keeper__do [KO xs E n ds us, deD true i p] = .ok .non [some (KO xs (E ++ [(i, p)]) (i + 1) (ds ++ [deD true i p]) [])] := by
  refine run_nx (N := 2) (fx := 1) (m := m_Keeper__do) (ρ := [some (KO xs (E ++ [(i, p)]) (i + 1) (ds ++ [deD true i p]) []), some (deD true i p)]) ?_ rfl
  refine seqV (dropV (call1V (i := 0) (n := 1) (g := g_Keeper__lay) (ma := mCons (mVar 1) mNil) (ρ := [some (KO xs E n ds us), some (deD true i p)]) rfl rfl rfl rfl (lay_ok h hl))) ?_
  refine seqV (dropV (mtHV (i := 0) (j := 3) (ma := mCons (mVar 1) mNil) (ρ := [some (KO xs (E ++ [(i, p)]) (i + 1) ds us), some (deD true i p)]) rfl rfl rfl (append_ok (by omega)))) ?_
  exact fsetV (i := 0) (j := 4) (d := .lst []) (ρ1 := [some (KO xs (E ++ [(i, p)]) (i + 1) (ds ++ [deD true i p]) us), some (deD true i p)]) rfl rfl (by show 4 < 5; decide)
theorem notN_tup (l : List D) : notND (.tup l) .non = some (.bl true) := rfl
theorem notN_non : notND .non .non = some (.bl false) := rfl
theorem lenK_en : lenD (.dK (enK E)) = some (.int (E.length : Nat)) := by
  show some (D.int ((enK E).length : Nat)) = _
  unfold enK
  rw [List.length_map]
abbrev Sy75 (k : D) (a b : Str) (w n : Option D) : DEnv := [some k, some (.str a), some (.str b), w, n]
abbrev mSayT : MS := (mSeq (mIfS (mTest (mOp2 notND (mV (mVar 3)) (mV (mC .non)))) (mRaise "Clash" ["way"] (mCons (mVar 3) mNil)) mNx)
  (mSeq (mIfS (mTest (mOp2 eqD (mV (mOpL lenD (mFd 0 1))) (mV (mC (.int 60))))) (mRaise "TooMany" ["word"] (mCons (mC (.str "sayings")) mNil)) mNx)
  (mSeq (mSet 4 (mFd 0 2))
  (mSeq (mDrop (mCall1 0 1 g_Keeper__do (mCons (mTup (mCons (mC (.bl true)) (mCons (mVar 4) (mCons (mTup (mCons (mVar 1) (mCons (mVar 2) mNil))) mNil)))) mNil)))
  (mRet (mVar 4))))))
theorem say_odd {a b c : Str} (ho : odd2 xs a b = some c) : gX_Keeper__say [KO xs E n ds us, .str a, .str b] = .ex (xNm c) [some (KO xs E n ds us)] := by
  have ask := call1X (i := 0) (n := 2) (g := gX_Keeper__ask_names) (ma := mCons (mVar 1) (mCons (mVar 2) mNil)) (ρ := Sy75 (KO xs E n ds us) a b none none) rfl rfl rfl rfl ((ask_ok (xs := xs) (E := E) (n := n) (ds := ds) (us := us) (a := a) (b := b)).1 c ho)
  exact runX_ex (N := 5) (fx := 1) (m := m_Keeper__say) (seqX (dropX ask)) rfl
theorem say_head {a b : Str} {w : D} {r : R Fl} (ho : odd2 xs a b = none) (hw : a = b ∧ w = .tup [] ∨ a ≠ b ∧ gX_Keeper__lead [KO xs E n ds us, .str b, .str a] = .ok w [some (KO xs E n ds us)]) (e : mSayT (Sy75 (KO xs E n ds us) a b (some w) none) = r) : m_Keeper__say (Sy75 (KO xs E n ds us) a b none none) = r := by
  have ask := call1V (i := 0) (n := 2) (g := gX_Keeper__ask_names) (ma := mCons (mVar 1) (mCons (mVar 2) mNil)) (ρ := Sy75 (KO xs E n ds us) a b none none) rfl rfl rfl rfl ((ask_ok (xs := xs) (E := E) (n := n) (ds := ds) (us := us) (a := a) (b := b)).2 ho)
  refine seqV (dropV ask) (seqV (setV' (i := 3) (m := mTup mNil) (ρ := Sy75 (KO xs E n ds us) a b none none) rfl) ?_)
  have t := test_val (op2_val (f := neD) (ma := mVar 1) (mb := mVar 2) (ρ := Sy75 (KO xs E n ds us) a b (some (.tup [])) none) rfl rfl (ne_strD a b))
  rcases hw with ⟨h, rfl⟩ | ⟨h, q⟩
  · rw [decide_eq_true h] at t
    exact seqV (ifV_F t rfl) e
  · rw [decide_eq_false h] at t
    have c := call1V (i := 0) (n := 2) (g := gX_Keeper__lead) (ma := mCons (mVar 2) (mCons (mVar 1) mNil)) (ρ := Sy75 (KO xs E n ds us) a b (some (.tup [])) none) rfl rfl rfl rfl q
    exact seqV (ifV_T t (setV' (i := 3) c)) e
theorem say_clash {a b : Str} {l : List D} (ho : odd2 xs a b = none) (hw : a = b ∧ D.tup l = .tup [] ∨ a ≠ b ∧ gX_Keeper__lead [KO xs E n ds us, .str b, .str a] = .ok (.tup l) [some (KO xs E n ds us)]) : gX_Keeper__say [KO xs E n ds us, .str a, .str b] = .ex (xCl (.tup l)) [some (KO xs E n ds us)] := by
  refine runX_ex (N := 5) (fx := 1) (m := m_Keeper__say) (ρ := Sy75 (KO xs E n ds us) a b (some (.tup l)) none) (say_head ho hw ?_) rfl
  exact seqX (ifV_T (test_val (op2_val (f := notND) rfl rfl (notN_tup l))) (raiseV (consV rfl rfl) rfl))
theorem say_many {a b : Str} (ho : odd2 xs a b = none) (h : a ≠ b) (q : gX_Keeper__lead [KO xs E n ds us, .str b, .str a] = .ok .non [some (KO xs E n ds us)]) (hl : E.length = 60) : gX_Keeper__say [KO xs E n ds us, .str a, .str b] = .ex xMn [some (KO xs E n ds us)] := by
  refine runX_ex (N := 5) (fx := 1) (m := m_Keeper__say) (ρ := Sy75 (KO xs E n ds us) a b (some .non) none) (say_head ho (.inr ⟨h, q⟩) ?_) rfl
  refine seqV (ifV_F (test_val (op2_val (f := notND) rfl rfl notN_non)) rfl) ?_
  have t := test_val (op2_val (f := eqD) (mb := mC (.int 60)) (opLV (f := lenD) (fdV (i := 0) (j := 1) (ρ := Sy75 (KO xs E n ds us) a b (some .non) none) rfl rfl) lenK_en) rfl (d_eqI _ _))
  rw [hl] at t
  exact seqX (ifV_T t (raiseV (consV rfl rfl) rfl))
theorem say_ok {a b : Str} (ho : odd2 xs a b = none) (h : a ≠ b) (q : gX_Keeper__lead [KO xs E n ds us, .str b, .str a] = .ok .non [some (KO xs E n ds us)]) (hl : E.length < 60) (hn : n ∉ E.map Prod.fst) (hd : ds.length ≤ 1000) :
    gX_Keeper__say [KO xs E n ds us, .str a, .str b] = .ok (.int n) [some (KO xs (E ++ [(n, (a, b))]) (n + 1) (ds ++ [deD true n (a, b)]) [])] := by
  refine runX_rt (N := 5) (fx := 1) (m := m_Keeper__say) (ρ := Sy75 (KO xs (E ++ [(n, (a, b))]) (n + 1) (ds ++ [deD true n (a, b)]) []) a b (some .non) (some (.int n))) (say_head ho (.inr ⟨h, q⟩) ?_) rfl
  refine seqV (ifV_F (test_val (op2_val (f := notND) rfl rfl notN_non)) rfl) ?_
  have t := test_val (op2_val (f := eqD) (mb := mC (.int 60)) (opLV (f := lenD) (fdV (i := 0) (j := 1) (ρ := Sy75 (KO xs E n ds us) a b (some .non) none) rfl rfl) lenK_en) rfl (d_eqI _ _))
  rw [decide_eq_false (by omega)] at t
  refine seqV (ifV_F t rfl) (seqV (setV' (i := 4) (fdV (i := 0) (j := 2) rfl rfl)) ?_)
  refine seqV (dropV (call1V (i := 0) (n := 1) (g := g_Keeper__do) (ρ := Sy75 (KO xs E n ds us) a b (some .non) (some (.int n))) (ds := [deD true n (a, b)]) rfl (consV rfl rfl) rfl rfl (do_ok hn (by omega) hd))) ?_
  exact retV rfl
theorem saying_ok {i : Int} : (∀ p, (E.map Prod.fst).Nodup → (i, p) ∈ E → gX_Keeper__saying [KO xs E n ds us, .int i] = .ok (prD p) [some (KO xs E n ds us)]) ∧ (i ∉ E.map Prod.fst → gX_Keeper__saying [KO xs E n ds us, .int i] = .ex (xSy (.int i)) [some (KO xs E n ds us)]) := by
  refine ⟨fun p nd h => ?_, fun h => ?_⟩
  · have hni : ninD (.int i) (.dK (enK E)) = some (.bl false) := by
      show ((some (look (enK E) (.inl i)).isSome).bind fun k => some (D.bl (!k))) = _
      rw [look_en nd h]; rfl
    refine runX_rt (N := 2) (fx := 1) (m := m_Keeper__saying) (ρ := [some (KO xs E n ds us), some (.int i)]) ?_ rfl
    exact seqV (ifV_F (testV (op2LV (m := mVar 1) rfl (fdV (i := 0) (j := 1) rfl rfl) hni)) rfl) (retV (fixV rfl rfl rfl (ix_en nd h)))
  · have hni : ninD (.int i) (.dK (enK E)) = some (.bl true) := by
      show ((some (look (enK E) (.inl i)).isSome).bind fun k => some (D.bl (!k))) = _
      rw [look_none h]; rfl
    refine runX_ex (N := 2) (fx := 1) (m := m_Keeper__saying) (ρ := [some (KO xs E n ds us), some (.int i)]) ?_ rfl
    exact seqX (ifV_T (testV (op2LV (m := mVar 1) rfl (fdV (i := 0) (j := 1) rfl rfl) hni)) (raiseV (consV rfl rfl) rfl))
theorem knows_odd {a b c : Str} (ho : odd2 xs a b = some c) : gX_Keeper__knows [KO xs E n ds us, .str a, .str b] = .ex (xNm c) [some (KO xs E n ds us)] := by
  have ld := call1X (i := 0) (n := 2) (g := gX_Keeper__lead) (ma := mCons (mVar 1) (mCons (mVar 2) mNil)) (ρ := [some (KO xs E n ds us), some (.str a), some (.str b)]) rfl rfl rfl rfl (lead_odd (xs := xs) (E := E) (n := n) (ds := ds) (us := us) ho)
  refine runX_ex (N := 3) (fx := 1) (m := m_Keeper__knows) (ρ := [some (KO xs E n ds us), some (.str a), some (.str b)]) ?_ rfl
  exact seqX (ifX75 (testX75 (op2X75 ld)))
/-- knows, from what lead tells both ways -/
theorem knows_ok {a b : Str} {v w : D} (h1 : gX_Keeper__lead [KO xs E n ds us, .str a, .str b] = .ok v [some (KO xs E n ds us)]) (h2 : gX_Keeper__lead [KO xs E n ds us, .str b, .str a] = .ok w [some (KO xs E n ds us)]) {bv bw : Bool} (q1 : notND v .non = some (.bl bv)) (q2 : notND w .non = some (.bl bw)) :
    gX_Keeper__knows [KO xs E n ds us, .str a, .str b] = .ok (if bv = true then .bl true else if (decide (a = b) || bw) = true then .bl false else .non) [some (KO xs E n ds us)] := by
  have c1 := call1V (i := 0) (n := 2) (g := gX_Keeper__lead) (ma := mCons (mVar 1) (mCons (mVar 2) mNil)) (ρ := [some (KO xs E n ds us), some (.str a), some (.str b)]) rfl rfl rfl rfl h1
  have c2 := call1V (i := 0) (n := 2) (g := gX_Keeper__lead) (ma := mCons (mVar 2) (mCons (mVar 1) mNil)) (ρ := [some (KO xs E n ds us), some (.str a), some (.str b)]) rfl rfl rfl rfl h2
  have t1 := test_val (op2_val (f := notND) (mb := mC .non) c1 rfl q1)
  have t2 := test_val (op2_val (f := notND) (mb := mC .non) c2 rfl q2)
  have t3 := or_b (test_val (op2_val (f := eqD) (ma := mVar 1) (mb := mVar 2) (ρ := [some (KO xs E n ds us), some (.str a), some (.str b)]) rfl rfl (eqs a b))) fun _ => t2
  refine runX_rt (N := 3) (fx := 1) (m := m_Keeper__knows) (ρ := [some (KO xs E n ds us), some (.str a), some (.str b)]) ?_ rfl
  cases bv with
  | true => exact seqR (ifV_T t1 (retV rfl))
  | false =>
    refine seqV (ifV_F t1 rfl) ?_
    rw [if_neg Bool.false_ne_true]
    cases hq : (decide (a = b) || bw) with
    | true =>
      rw [hq] at t3
      rw [if_pos rfl]
      exact seqR (ifV_T t3 (retV rfl))
    | false =>
      rw [hq] at t3
      rw [if_neg Bool.false_ne_true]
      exact seqV (ifV_F t3 rfl) (retV rfl)
end
/-! ### refusals told -/
theorem ref_name (a : D) : g__law_refusal [.ob "NoName" [("name", a)]] = .ok (.tup [.str "name", a]) [] := by kernel_rfl
theorem ref_clash (w : D) : g__law_refusal [.ob "Clash" [("way", w)]] = .ok (.tup [.str "clash", w]) [] := by kernel_rfl
theorem ref_many (w : D) : g__law_refusal [.ob "TooMany" [("word", w)]] = .ok (.tup [.str "many", w]) [] := by kernel_rfl
theorem ref_saying (w : D) : g__law_refusal [.ob "NoSaying" [("number", w)]] = .ok (.tup [.str "saying", w]) [] := by kernel_rfl
theorem callE_val {i : Nat} {g : List D → R D} {ρ ρ' : DEnv} {c : Str} {fs : List (Str × D)} {r : D} (h : ρ[i]? = some (some (.ob c fs))) (e : g [.ob c fs] = .ok r ρ') : mCallE i g ρ = .ok r ρ := by
  have ow : own ρ i = some (.ob c fs) := by unfold own; rw [h]; rfl
  unfold mCallE
  rw [ow]
  dsimp only
  rw [e]
noncomputable abbrev mbT : MS := (mIfS (mTest (mOp2 eqD (mV (mVar 1)) (mV (mC (.str "say"))))) (mSet 4 (mCall1 0 2 gX_Keeper__say (mCons (mVar 2) (mCons (mVar 3) mNil)))) (mIfS (mTest (mOp2 eqD (mV (mVar 1)) (mV (mC (.str "take"))))) (mSet 4 (mCall1 0 1 gX_Keeper__take (mCons (mVar 2) mNil))) (mIfS (mTest (mOp2 eqD (mV (mVar 1)) (mV (mC (.str "undo"))))) (mSet 4 (mCall1 0 0 gX_Keeper__undo mNil)) (mIfS (mTest (mOp2 eqD (mV (mVar 1)) (mV (mC (.str "redo"))))) (mSet 4 (mCall1 0 0 gX_Keeper__redo mNil)) (mIfS (mTest (mOp2 eqD (mV (mVar 1)) (mV (mC (.str "saying"))))) (mSet 4 (mCall1 0 1 gX_Keeper__saying (mCons (mVar 2) mNil))) (mSet 4 (mIf (mTest (mOp2 eqD (mV (mVar 1)) (mV (mC (.str "lead"))))) (mCall1 0 2 gX_Keeper__lead (mCons (mVar 2) (mCons (mVar 3) mNil))) (mCall1 0 2 gX_Keeper__knows (mCons (mVar 2) (mCons (mVar 3) mNil))))))))))
abbrev Tb75 (k w a b : D) (f : Option D) : DEnv := [some k, some w, some a, some b, f, none]
abbrev KX : List Str := ["Clash", "NoName", "NoSaying", "TooMany", "NoMore"]
theorem told_of {k k' w a b v : D} (h : mbT (Tb75 k w a b (some .non)) = .ok .nx (Tb75 k' w a b (some v))) : g__law_told_by [k, w, a, b] = .ok v [some k'] := by
  refine run_rt (N := 6) (fx := 1) (m := m__law_told_by) (ρ := Tb75 k' w a b (some v)) ?_ rfl
  exact seqV (setV' (i := 4) (m := mC .non) (ρ := Tb75 k w a b none) rfl) (seqV (try_ok h) (retV rfl))
theorem told_ex {k k' w a b r : D} {z : Ex} (h : mbT (Tb75 k w a b (some .non)) = .ex z (Tb75 k' w a b (some .non))) (hc : KX.contains z.c = true) (hr : g__law_refusal [.ob z.c z.fs] = .ok r []) : g__law_told_by [k, w, a, b] = .ok r [some k'] := by
  refine run_rt (N := 6) (fx := 1) (m := m__law_told_by) (ρ := Tb75 k' w a b (some r)) ?_ rfl
  refine seqV (setV' (i := 4) (m := mC .non) (ρ := Tb75 k w a b none) rfl) (seqV (ρ1 := Tb75 k' w a b (some r)) ?_ (retV rfl))
  exact try_ex (i := 5) h hc (setV' (i := 4) (callE_val (i := 5) (ρ := [some k', some w, some a, some b, some .non, some (.ob z.c z.fs)]) rfl hr))
theorem wT {x y : Str} {k a b : D} {c : Bool} (h : decide (x = y) = c) : mTest (mOp2 eqD (mV (mVar 1)) (mV (mC (.str y)))) (Tb75 k (.str x) a b (some .non)) = .ok c (Tb75 k (.str x) a b (some .non)) := by
  rw [← h]
  exact test_val (op2_val (f := eqD) rfl rfl (eqs x y))
theorem mb_say {k a b : D} : mbT (Tb75 k (.str "say") a b (some .non)) = mSet 4 (mCall1 0 2 gX_Keeper__say (mCons (mVar 2) (mCons (mVar 3) mNil))) (Tb75 k (.str "say") a b (some .non)) := ifV_T (wT (by decide)) rfl
theorem mb_saying {k a b : D} : mbT (Tb75 k (.str "saying") a b (some .non)) = mSet 4 (mCall1 0 1 gX_Keeper__saying (mCons (mVar 2) mNil)) (Tb75 k (.str "saying") a b (some .non)) := ifV_F (wT (by decide)) (ifV_F (wT (by decide)) (ifV_F (wT (by decide)) (ifV_F (wT (by decide)) (ifV_T (wT (by decide)) rfl))))
theorem mIf_T {c : MT} {m n : ME} {ρ ρ1 : DEnv} (h : c ρ = .ok true ρ1) : mIf c m n ρ = m ρ1 := by rw [e_if, h, R.bind_ok, if_pos rfl]
theorem mIf_F {c : MT} {m n : ME} {ρ ρ1 : DEnv} (h : c ρ = .ok false ρ1) : mIf c m n ρ = n ρ1 := by rw [e_if, h, R.bind_ok, if_neg Bool.false_ne_true]
theorem setE {i : Nat} {m n : ME} {ρ : DEnv} (h : m ρ = n ρ) : mSet i m ρ = mSet i n ρ := by rw [e_set, e_set, h]
theorem mb_lead {k a b : D} : mbT (Tb75 k (.str "lead") a b (some .non)) = mSet 4 (mCall1 0 2 gX_Keeper__lead (mCons (mVar 2) (mCons (mVar 3) mNil))) (Tb75 k (.str "lead") a b (some .non)) := ifV_F (wT (by decide)) (ifV_F (wT (by decide)) (ifV_F (wT (by decide)) (ifV_F (wT (by decide)) (ifV_F (wT (by decide)) (setE (mIf_T (wT (by decide))))))))
theorem mb_knows {k a b : D} : mbT (Tb75 k (.str "knows") a b (some .non)) = mSet 4 (mCall1 0 2 gX_Keeper__knows (mCons (mVar 2) (mCons (mVar 3) mNil))) (Tb75 k (.str "knows") a b (some .non)) := ifV_F (wT (by decide)) (ifV_F (wT (by decide)) (ifV_F (wT (by decide)) (ifV_F (wT (by decide)) (ifV_F (wT (by decide)) (setE (mIf_F (wT (by decide))))))))
theorem told_two {g : List D → R D} {k k' a b v : D} {w : Str} (hm : mbT (Tb75 k (.str w) a b (some .non)) = mSet 4 (mCall1 0 2 g (mCons (mVar 2) (mCons (mVar 3) mNil))) (Tb75 k (.str w) a b (some .non))) (h : g [k, a, b] = .ok v [some k']) : g__law_told_by [k, .str w, a, b] = .ok v [some k'] :=
  told_of (hm.trans (setV' (i := 4) (call1V (i := 0) (n := 2) (g := g) (ρ := Tb75 k (.str w) a b (some .non)) rfl rfl rfl rfl h)))
theorem told_twoX {g : List D → R D} {k k' a b r : D} {w : Str} {z : Ex} (hm : mbT (Tb75 k (.str w) a b (some .non)) = mSet 4 (mCall1 0 2 g (mCons (mVar 2) (mCons (mVar 3) mNil))) (Tb75 k (.str w) a b (some .non))) (h : g [k, a, b] = .ex z [some k']) (hc : KX.contains z.c = true) (hr : g__law_refusal [.ob z.c z.fs] = .ok r []) : g__law_told_by [k, .str w, a, b] = .ok r [some k'] :=
  told_ex (hm.trans (setX (i := 4) (call1X (i := 0) (n := 2) (g := g) (ρ := Tb75 k (.str w) a b (some .non)) rfl rfl rfl rfl h))) hc hr
theorem told_one {g : List D → R D} {k k' a b v : D} {w : Str} (hm : mbT (Tb75 k (.str w) a b (some .non)) = mSet 4 (mCall1 0 1 g (mCons (mVar 2) mNil)) (Tb75 k (.str w) a b (some .non))) (h : g [k, a] = .ok v [some k']) : g__law_told_by [k, .str w, a, b] = .ok v [some k'] :=
  told_of (hm.trans (setV' (i := 4) (call1V (i := 0) (n := 1) (g := g) (ρ := Tb75 k (.str w) a b (some .non)) rfl rfl rfl rfl h)))
theorem told_oneX {g : List D → R D} {k k' a b r : D} {w : Str} {z : Ex} (hm : mbT (Tb75 k (.str w) a b (some .non)) = mSet 4 (mCall1 0 1 g (mCons (mVar 2) mNil)) (Tb75 k (.str w) a b (some .non))) (h : g [k, a] = .ex z [some k']) (hc : KX.contains z.c = true) (hr : g__law_refusal [.ob z.c z.fs] = .ok r []) : g__law_told_by [k, .str w, a, b] = .ok r [some k'] :=
  told_ex (hm.trans (setX (i := 4) (call1X (i := 0) (n := 1) (g := g) (ρ := Tb75 k (.str w) a b (some .non)) rfl rfl rfl rfl h))) hc hr
/-! ### truths in lists, kinds -/
theorem isi_of {d : D} {c n : String} {b : Bool} (h : d.cls = some c) (hk : kitB c n = some b) : isiD d (.ty n) = some (.bl b) := by
  show (d.cls.bind fun c => (kitB c n).bind fun b => some (D.bl b)) = _
  rw [h, Option.bind_some, hk]; rfl
theorem two_opS {f : D → D → Option D} {m n : ME} {ρ : DEnv} {d e v : D} (h : m ρ = .ok d ρ) (h2 : n ρ = .ok e ρ) (q : f d e = some v) : mOpN (two f) (mOCons (mV m) (mOCons (mV n) mONil)) ρ = .ok v ρ := by
  rw [e_opN, e_oCons, e_V, h]
  simp only [R.bind_ok, e_oCons, e_V, h2, e_oNil, e_getA, e_getA0, e_getv, Option.bind_some, e_two, q, R.of_some]
/-! ### chains of numbers -/
inductive Chn (E : EN) : Str → List Int → Str → Prop
  | nil (a : Str) : Chn E a [] a
  | cons {a b c : Str} {i : Int} {w : List Int} : (i, (a, c)) ∈ E → Chn E c w b → Chn E a (i :: w) b
theorem chn_of {E : EN} {b : Str} : ∀ {p : List Nat} {a : Str}, (∀ k ∈ p, k < (ordE E).length) → a :: (sel (ordE E) p).map Prod.snd = (sel (ordE E) p).map Prod.fst ++ [b] → Chn E a (p.map fun k => ((srtE E).map Prod.fst).getD k 0) b
  | [], a, _, h => by
    have : a = b := by simpa [sel] using h
    subst this
    exact .nil a
  | k :: p, a, hl, h => by
    have hk := hl k List.mem_cons_self
    obtain ⟨⟨s1, s2⟩, hs⟩ : ∃ s, (ordE E)[k]? = some s := ⟨_, List.getElem?_eq_getElem hk⟩
    have hs0 := hs
    unfold ordE at hs
    rw [List.getElem?_map] at hs
    obtain ⟨⟨j, q⟩, h1, h2⟩ := Option.map_eq_some_iff.mp hs
    have h2 : q = (s1, s2) := h2
    subst h2
    have e1 : sel (ordE E) (k :: p) = (s1, s2) :: sel (ordE E) p := by
      unfold sel
      rw [List.map_cons, List.getD_eq_getElem?_getD, hs0]; rfl
    rw [e1] at h
    simp only [List.map_cons, List.cons_append] at h
    obtain ⟨ea, et⟩ := List.cons.inj h
    have ea : a = s1 := ea
    subst ea
    have en : ((srtE E).map Prod.fst).getD k 0 = j := by rw [List.getD_eq_getElem?_getD, List.getElem?_map, h1]; rfl
    rw [List.map_cons, en]
    exact .cons ((srtE_perm E).subset (List.mem_of_getElem? h1)) (chn_of (fun m hm => hl m (List.mem_cons_of_mem _ hm)) et)
/-- what lead tells: a way's numbers -/
theorem LeadR.way {E : EN} {a b : Str} {v : D} (h : LeadR E a b v) : (v = .non ∧ (a = b ∨ ¬ Rch (ordE E) a b)) ∨ (a ≠ b ∧ Rch (ordE E) a b ∧ ∃ w : List Int, w ≠ [] ∧ v = .tup (w.map .int) ∧ Chn E a w b) := by
  cases h with
  | same h => exact .inl ⟨rfl, .inl h⟩
  | none h k => exact .inl ⟨rfl, .inr k⟩
  | some h p hp pa rc pl =>
    refine .inr ⟨h, rc, p.map fun k => ((srtE E).map Prod.fst).getD k 0, fun z => hp (List.map_eq_nil_iff.mp z), ?_, chn_of pa.lt pa.ch⟩
    unfold pthN
    rw [List.map_map]; rfl
/-! ### no rings -/
theorem Rch.transX {ss : SS} {a b c : Str} (h : Rch ss a b) (k : Rch ss b c) : Rch ss a c := by
  induction k with
  | one e => exact .snoc h e
  | snoc _ e ih => exact .snoc ih e
theorem rch_add {ss tt : SS} {a b : Str} (h : ∀ p ∈ tt, p ∈ ss ∨ p = (a, b)) {x y : Str} (r : Rch tt x y) : Rch ss x y ∨ ((x = a ∨ Rch ss x a) ∧ (b = y ∨ Rch ss b y)) := by
  induction r with
  | one e =>
    rcases h _ e with q | q
    · exact .inl (.one q)
    · cases q; exact .inr ⟨.inl rfl, .inl rfl⟩
  | snoc _ e ih =>
    rcases h _ e with q | q
    · rcases ih with ih | ⟨i1, i2⟩
      · exact .inl (.snoc ih q)
      · refine .inr ⟨i1, .inr ?_⟩
        rcases i2 with z | z
        · subst z; exact .one q
        · exact .snoc z q
    · cases q
      rcases ih with ih | ⟨i1, i2⟩
      · exact .inr ⟨.inr ih, .inl rfl⟩
      · exact .inr ⟨i1, .inl rfl⟩
theorem acy_add {ss tt : SS} {a b : Str} (h : ∀ p ∈ tt, p ∈ ss ∨ p = (a, b)) (acy : ∀ x, ¬ Rch ss x x) (hab : a ≠ b) (nb : ¬ Rch ss b a) (x : Str) : ¬ Rch tt x x := fun r => by
  rcases rch_add h r with q | ⟨q1, q2⟩
  · exact acy x q
  · rcases q1 with rfl | q1
    · rcases q2 with z | z
      · exact hab z.symm
      · exact nb z
    · rcases q2 with rfl | z
      · exact nb q1
      · exact nb (z.transX q1)
theorem mem_ord_snoc {E : EN} {i : Int} {p : Str × Str} {q : Str × Str} : q ∈ ordE (E ++ [(i, p)]) ↔ q ∈ ordE E ∨ q = p := by
  rw [mem_ordE, mem_ordE]
  constructor
  · rintro ⟨j, m⟩
    rcases List.mem_append.mp m with m | m
    · exact .inl ⟨j, m⟩
    · cases List.mem_singleton.mp m; exact .inr rfl
  · rintro (⟨j, m⟩ | rfl)
    · exact ⟨j, List.mem_append_left _ m⟩
    · exact ⟨i, List.mem_append_right _ (by simp)⟩
/-! ### the law's look at a way -/
abbrev mWayB : MS := (mSeq (mIfS (mOr (mNot (mTest (mOpN (two isiD) (mOCons (mV (mVar 5)) (mOCons (mV (mC (.ty "int"))) mONil))))) (mOr (mTest (mOpN (two isiD) (mOCons (mV (mVar 5)) (mOCons (mV (mC (.ty "bool"))) mONil)))) (mTest (mOp2L ninD (mV (mVar 5)) (mFd 0 2))))) (mRet (mC (.bl false))) mNx)
  (mSeq (mIfS (mTest (mOp2 neD (mV (mOp2 ixD (mV (mFix 0 2 (mVar 5))) (mV (mC (.int 0))))) (mV (mVar 4)))) (mRet (mC (.bl false))) mNx)
  (mSet 4 (mOp2 ixD (mV (mFix 0 2 (mVar 5))) (mV (mC (.int 1)))))))
abbrev Iw75 (s w a b : D) (h j : Option D) : DEnv := [some s, some w, some a, some b, h, j]
theorem orV {t u : MT} {ρ : DEnv} {b c : Bool} (h1 : t ρ = .ok b ρ) (h2 : u ρ = .ok c ρ) : mOr t u ρ = .ok (b || c) ρ := or_b h1 fun _ => h2
section
variable {xs : List Str} {k : D} {E : EN} {n : Int} {ds us : List D}
theorem way_step (nd : (E.map Prod.fst).Nodup) {W A B : D} {i : Int} {a c : Str} (h : (i, (a, c)) ∈ E) : mWayB (Iw75 (SO xs k E n ds us) W A B (some (.str a)) (some (.int i))) = .ok .nx (Iw75 (SO xs k E n ds us) W A B (some (.str c)) (some (.int i))) := by
  have hni : ninD (.int i) (.dK (enK E)) = some (.bl false) := by
    show ((some (look (enK E) (.inl i)).isSome).bind fun k => some (D.bl (!k))) = _
    rw [look_en nd h]; rfl
  have t1 : mTest (mOpN (two isiD) (mOCons (mV (mVar 5)) (mOCons (mV (mC (.ty "int"))) mONil))) (Iw75 (SO xs k E n ds us) W A B (some (.str a)) (some (.int i))) = .ok true (Iw75 (SO xs k E n ds us) W A B (some (.str a)) (some (.int i))) := test_val (two_opS rfl rfl (isi_of (c := "int") rfl (by decide +kernel)))
  have t2 : mTest (mOpN (two isiD) (mOCons (mV (mVar 5)) (mOCons (mV (mC (.ty "bool"))) mONil))) (Iw75 (SO xs k E n ds us) W A B (some (.str a)) (some (.int i))) = .ok false (Iw75 (SO xs k E n ds us) W A B (some (.str a)) (some (.int i))) := test_val (two_opS rfl rfl (isi_of (c := "int") rfl (by decide +kernel)))
  have t3 := testV (op2LV (f := ninD) (m := mVar 5) (ρ := Iw75 (SO xs k E n ds us) W A B (some (.str a)) (some (.int i))) rfl (fdV (i := 0) (j := 2) rfl rfl) hni)
  have fx : mFix 0 2 (mVar 5) (Iw75 (SO xs k E n ds us) W A B (some (.str a)) (some (.int i))) = .ok (prD (a, c)) (Iw75 (SO xs k E n ds us) W A B (some (.str a)) (some (.int i))) := fixV rfl rfl rfl (ix_en nd h)
  refine seqV (ifV_F (orV (not_t t1) (orV t2 t3)) rfl) ?_
  refine seqV (ifV_F (test_val (op2_val (f := neD) (mb := mVar 4) (op2_val (f := ixD) (mb := mC (.int 0)) fx rfl (rfl : ixD (prD (a, c)) (.int 0) = some (.str a))) rfl (?_ : neD (.str a) (.str a) = some (.bl false)))) rfl) ?_
  · rw [ne_strD, decide_eq_true rfl]; rfl
  · exact setV' (i := 4) (op2_val (f := ixD) (mb := mC (.int 1)) fx rfl (rfl : ixD (prD (a, c)) (.int 1) = some (.str c)))
theorem way_for (nd : (E.map Prod.fst).Nodup) {W A B : D} {b : Str} : ∀ {w : List Int} {a : Str} {j : Option D}, Chn E a w b → ∃ j', mFor (kName 5) mWayB (w.map .int) (Iw75 (SO xs k E n ds us) W A B (some (.str a)) j) = .ok .nx (Iw75 (SO xs k E n ds us) W A B (some (.str b)) j')
  | [], a, j, .nil _ => ⟨j, rfl⟩
  | i :: w, a, j, .cons h c => by
    obtain ⟨j', e⟩ := way_for nd (W := W) (A := A) (B := B) (j := some (.int i)) c
    exact ⟨j', forN rfl (way_step nd h) e⟩
theorem isway_ok (nd : (E.map Prod.fst).Nodup) {a b : Str} {w : List Int} (hw : w ≠ []) (c : Chn E a w b) : g__law_is_way [SO xs k E n ds us, .tup (w.map .int), .str a, .str b] = .ok (.bl true) [some (SO xs k E n ds us)] := by
  obtain ⟨j', e⟩ := way_for (xs := xs) (k := k) (n := n) (ds := ds) (us := us) nd (W := .tup (w.map .int)) (A := .str a) (B := .str b) (j := none) c
  refine run_rt (N := 6) (fx := 1) (m := m__law_is_way) (ρ := Iw75 (SO xs k E n ds us) (.tup (w.map .int)) (.str a) (.str b) (some (.str b)) j') ?_ rfl
  have t1 : mTest (mOpN (two isiD) (mOCons (mV (mVar 1)) (mOCons (mV (mC (.ty "tuple"))) mONil))) (Iw75 (SO xs k E n ds us) (.tup (w.map .int)) (.str a) (.str b) none none) = .ok true (Iw75 (SO xs k E n ds us) (.tup (w.map .int)) (.str a) (.str b) none none) := test_val (two_opS rfl rfl (isi_of (c := "tuple") rfl (by decide +kernel)))
  have t2 : mTest (mOp2 eqTuD (mV (mVar 1)) (mV (mTup mNil))) (Iw75 (SO xs k E n ds us) (.tup (w.map .int)) (.str a) (.str b) none none) = .ok false (Iw75 (SO xs k E n ds us) (.tup (w.map .int)) (.str a) (.str b) none none) := by
    refine test_val (op2_val (f := eqTuD) (d := .tup (w.map .int)) (e := .tup []) rfl rfl ?_)
    show some (D.bl (w.map D.int).isEmpty) = _
    cases w with
    | nil => exact absurd rfl hw
    | cons _ _ => rfl
  refine seqV (ifV_F (orV (not_t t1) t2) rfl) (seqV (setV' (i := 4) (m := mVar 2) rfl) ?_)
  refine seqV (loopV (ts_val (m := mVar 1) rfl) e) (retV (op2_val (f := eqD) rfl rfl ?_))
  rw [eqs, decide_eq_true rfl]
end
theorem wtL_le {k : Nat} : ∀ {xs : List D}, (∀ d ∈ xs, d.wt ≤ k) → wtL xs ≤ k * xs.length
  | [], _ => by rw [wtL]; exact Nat.zero_le _
  | d :: ds, h => by
    rw [wtL, List.length_cons, Nat.mul_succ]
    have h1 := h d List.mem_cons_self
    have h2 := wtL_le fun x m => h x (List.mem_cons_of_mem _ m)
    omega
theorem show_str (x : Str) : (D.str x).toPy.showable = true := by rw [D.toPy, PyData.showable]
theorem showL : ∀ {xs : List D}, (∀ d ∈ xs, d.toPy.showable = true) → PyData.showableAll (toPyL xs) = true
  | [], _ => by rw [toPyL, PyData.showableAll]
  | d :: ds, h => by rw [toPyL, PyData.showableAll, h d List.mem_cons_self, showL fun x m => h x (List.mem_cons_of_mem _ m)]; rfl
theorem show_tup {xs : List D} (h : ∀ d ∈ xs, d.toPy.showable = true) : (D.tup xs).toPy.showable = true := by rw [D.toPy, PyData.showable]; exact showL h
theorem goodE {x : Str} (h : goodB x = true) : 1 ≤ x.length ∧ x.length ≤ 8 ∧ ∀ c ∈ x.cps.toList, 97 ≤ c ∧ c ≤ 122 := by
  unfold goodB at h
  rw [Bool.and_eq_true, Bool.and_eq_true, decide_eq_true_eq, decide_eq_true_eq, List.all_eq_true] at h
  refine ⟨h.1.1, h.1.2, fun c m => ?_⟩
  have := h.2 c m
  rw [Bool.and_eq_true, decide_eq_true_eq, decide_eq_true_eq] at this
  exact this
theorem repr_of {d : D} (h1 : d.pln = true) (h2 : d.toPy.showable = true) (h3 : d.toPy.depth ≤ 60) (h4 : d.wt ≤ 16777216) : reprD d = some (.rp d.toPy) := by
  have ok : reprOk d = true := by
    unfold reprOk
    rw [pln_py _ h1, h2, decide_eq_true (Nat.le_trans h3 (by decide)), decide_eq_true h4]; rfl
  unfold reprD
  rw [if_pos ok]
structure Rp (d : D) (k w : Nat) : Prop where
  pl : d.pln = true
  sh : d.toPy.showable = true
  dp : d.toPy.depth ≤ k
  wt : d.wt ≤ w
theorem Rp.mono {d : D} {k w k' w' : Nat} (h : Rp d k w) (hk : k ≤ k') (hw : w ≤ w') : Rp d k' w' := ⟨h.pl, h.sh, Nat.le_trans h.dp hk, Nat.le_trans h.wt hw⟩
theorem Rp.repr {d : D} {k w : Nat} (h : Rp d k w) (hk : k ≤ 60) (hw : w ≤ 16777216) : reprD d = some (.rp d.toPy) := repr_of h.pl h.sh (Nat.le_trans h.dp hk) (Nat.le_trans h.wt hw)
theorem show_lst {xs : List D} (h : ∀ d ∈ xs, d.toPy.showable = true) : (D.lst xs).toPy.showable = true := by rw [D.toPy, PyData.showable]; exact showL h
theorem Rp.tup {xs : List D} {k w : Nat} (h : ∀ d ∈ xs, Rp d k w) : Rp (.tup xs) (k + 1) (w * xs.length + 2 * xs.length + 3) :=
  ⟨pln_tup (plnL_all fun d m => (h d m).pl), show_tup fun d m => (h d m).sh, dep_tup fun d m => (h d m).dp, by
    rw [D.wt]
    have := wtL_le (xs := xs) (k := w) fun d m => (h d m).wt
    omega⟩
theorem Rp.lst {xs : List D} {k w : Nat} (h : ∀ d ∈ xs, Rp d k w) : Rp (.lst xs) (k + 1) (w * xs.length + 2 * xs.length + 3) :=
  ⟨pln_lst (plnL_all fun d m => (h d m).pl), show_lst fun d m => (h d m).sh, dep_lst fun d m => (h d m).dp, by
    rw [D.wt]
    have := wtL_le (xs := xs) (k := w) fun d m => (h d m).wt
    omega⟩
theorem Rp.str {x : Str} (h : goodB x = true) : Rp (.str x) 0 82 := ⟨pln_str x, show_str x, by rw [dep_str]; exact Nat.le_refl _, by rw [D.wt]; have := (goodE h).2.1; omega⟩
theorem Rp.names {xs : List Str} (h : ∀ x ∈ xs, goodB x = true) (lx : xs.length ≤ 20) : Rp (.tup (xs.map .str)) 1 1700 :=
  (Rp.tup (k := 0) (w := 82) fun d m => by obtain ⟨x, mx, rfl⟩ := List.mem_map.mp m; exact .str (h x mx)).mono (Nat.le_refl _) (by rw [List.length_map]; omega)
theorem eq_self {d : D} (h : d.pln = true) (hm : d.toPy.depth ≤ 60) : eqD d d = some (.bl true) := by
  obtain ⟨b, e, hb⟩ := eqD_pln h h (by omega)
  rw [e, hb.mpr rfl]
theorem Rp.intZ {i : Int} (h : i.natAbs ≤ 1000000000000) : Rp (.int i) 0 2000 := by
  refine ⟨by rw [D.pln], ?_, ?_, ?_⟩
  · rw [D.toPy, PyData.showable, decide_eq_true_eq]
    by_cases z : i.natAbs = 0
    · rw [z]; decide
    · exact Nat.lt_trans ((Nat.log2_lt z).mpr (Nat.lt_of_le_of_lt h (by decide : 1000000000000 < 2 ^ 40))) (by decide)
  · rw [D.toPy, PyData.depth]; exact Nat.le_refl _
  · rw [D.wt]; exact Nat.le_refl _
theorem Rp.pr75 {s : Str × Str} (h1 : goodB s.1 = true) (h2 : goodB s.2 = true) : Rp (prD s) 1 171 :=
  (Rp.tup (k := 0) (w := 82) fun d m => by
    rcases List.mem_cons.mp m with rfl | m
    · exact .str h1
    · cases List.mem_singleton.mp m; exact .str h2).mono (Nat.le_refl _) (by show 82 * 2 + 2 * 2 + 3 ≤ 171; omega)
theorem Rp.two75 {d e : D} {k w : Nat} (h1 : Rp d k w) (h2 : Rp e k w) : Rp (.tup [d, e]) (k + 1) (w * 2 + 2 * 2 + 3) := Rp.tup fun x m => by
  rcases List.mem_cons.mp m with rfl | m
  · exact h1
  · cases List.mem_singleton.mp m; exact h2
/-- what holds of a keeper: t bounds the deeds -/
structure KS (t : Nat) (xs : List Str) (E : EN) (n : Int) (ds : List D) : Prop where
  gx : GoodNs xs
  lx : xs.length ≤ 10
  mem : ∀ e ∈ E, e.2.1 ∈ xs ∧ e.2.2 ∈ xs
  nd : (E.map Prod.fst).Nodup
  fr : ∀ e ∈ E, 0 ≤ e.1 ∧ e.1 < n
  le : E.length ≤ 60
  n0 : 0 ≤ n
  nt : n ≤ (t : Int)
  dl : ds.length ≤ t
  acy : ∀ a, ¬ Rch (ordE E) a a
theorem KS.mono {t t' : Nat} {xs : List Str} {E : EN} {n : Int} {ds : List D} (h : KS t xs E n ds) (k : t ≤ t') : KS t' xs E n ds := ⟨h.gx, h.lx, h.mem, h.nd, h.fr, h.le, h.n0, by have := h.nt; omega, by have := h.dl; omega, h.acy⟩
section
variable {t : Nat} {xs : List Str} {E : EN} {n : Int} {ds us : List D}
theorem KS.new (h : KS t xs E n ds) : n ∉ E.map Prod.fst := fun m => by
  obtain ⟨e, me, rfl⟩ := List.mem_map.mp m
  have := (h.fr e me).2
  omega
theorem KS.add {a b : Str} (h : KS t xs E n ds) (ha : a ∈ xs) (hb : b ∈ xs) (hab : a ≠ b) (nb : ¬ Rch (ordE E) b a) (hl : E.length < 60) (d : D) : KS (t + 1) xs (E ++ [(n, (a, b))]) (n + 1) (ds ++ [d]) := by
  have n0 := h.n0
  refine ⟨h.gx, h.lx, fun e m => ?_, ?_, fun e m => ?_, by rw [List.length_append, List.length_singleton]; omega, by omega, by have := h.nt; omega, by rw [List.length_append, List.length_singleton]; have := h.dl; omega, fun x => acy_add (ss := ordE E) (fun p m => mem_ord_snoc.mp m) h.acy hab nb x⟩
  · rcases List.mem_append.mp m with m | m
    · exact h.mem e m
    · cases List.mem_singleton.mp m; exact ⟨ha, hb⟩
  · rw [List.map_append, List.map_singleton]
    exact nd_snoc h.nd h.new
  · rcases List.mem_append.mp m with m | m
    · have := h.fr e m; omega
    · cases List.mem_singleton.mp m
      show 0 ≤ n ∧ n < n + 1
      omega
theorem KS.rp (h : KS t xs E n ds) : Rp (.tup [NT xs, ssD (ordE E)]) 3 30000 := by
  have r1 : Rp (NT xs) 1 1700 := Rp.names h.gx.all (by have := h.lx; omega)
  have r2 : Rp (ssD (ordE E)) 2 (171 * ((ordE E).map prD).length + 2 * ((ordE E).map prD).length + 3) := Rp.tup (k := 1) (w := 171) fun d m => by
    obtain ⟨p, mp, rfl⟩ := List.mem_map.mp m
    obtain ⟨i, mi⟩ := mem_ordE.mp mp
    obtain ⟨q1, q2⟩ := h.mem _ mi
    exact .pr75 (h.gx.all _ q1) (h.gx.all _ q2)
  have l := ordE_len E
  have le := h.le
  rw [List.length_map, l] at r2
  exact (Rp.two75 (k := 2) (w := 10500) (r1.mono (by decide) (by omega)) (r2.mono (by decide) (by omega))).mono (by decide) (by decide)
theorem KS.rpn (h : KS t xs E n ds) (ht : t ≤ 100000) : Rp (NUMD E) 1 130000 := by
  have l : (((srtE E).map Prod.fst).map D.int).length = E.length := by rw [List.length_map, List.length_map, srtE_len]
  have le := h.le
  have : Rp (NUMD E) 1 (2000 * (((srtE E).map Prod.fst).map D.int).length + 2 * (((srtE E).map Prod.fst).map D.int).length + 3) := Rp.tup (k := 0) (w := 2000) fun d m => by
    obtain ⟨i, mi, rfl⟩ := List.mem_map.mp m
    obtain ⟨e, me, rfl⟩ := List.mem_map.mp mi
    have := h.fr e ((srtE_perm E).subset me)
    have := h.nt
    exact .intZ (by omega)
  rw [l] at this
  exact this.mono (Nat.le_refl _) (by omega)
/-- names behind, by the law -/
theorem KS.bh (h : KS t xs E n ds) (a : Str) : ∃ fs : List Str, g__law_behind [.tup [NT xs, ssD (ordE E)], .str a] = .ok (.lst (fs.map .str)) [] ∧ ∀ x, x ∈ fs ↔ Rch (ordE E) a x := behind_ok (nm := NT xs) (n := a) (by rw [ordE_len]; have := h.le; omega)
theorem rep_ne {d : D} {k w : Nat} {m m' : ME} {ρ ρ1 ρ2 : DEnv} (r : Rp d k w) (hk : k ≤ 60) (hw : w ≤ 16777216) (h1 : m ρ = .ok d ρ1) (h2 : m' ρ1 = .ok d ρ2) : mTest (mOp2 neD (mV (mOpN (one reprD) (mOCons (mV m) mONil))) (mV (mOpN (one reprD) (mOCons (mV m') mONil)))) ρ = .ok false ρ2 :=
  testV (op2V (opSV h1 (r.repr hk hw)) (opSV h2 (r.repr hk hw)) (ne_rp _))
abbrev SK (xs : List Str) (E : EN) (n : Int) (ds us : List D) : D := SO xs (KO xs E n ds us) E n ds us
abbrev Lk75 (s : D) (c : Option D) (i u : Option D) : DEnv := [some s, c, i, u]
noncomputable abbrev mLkB : MS := (mSeq (mSet 3 (mGetH 0 2 (mVar 2) (mTup (mCons (mC (.str "saying")) (mCons (mVar 2) mNil)))))
  (mIfS (mTest (mOp2 neD (mV (mOpN (one reprD) (mOCons (mV (mCallF (gdK 1) 0 1 3 g__law_told_by (mCons (mC (.str "saying")) (mCons (mVar 2) (mCons (mC .non) mNil))))) mONil))) (mV (mOpN (one reprD) (mOCons (mV (mVar 3)) mONil))))) (mRet (mC (.bl false))) mNx))
theorem look_step (h : KS t xs E n ds) {i : Int} (hi : i.natAbs ≤ 1000000) {u : Option D} {c : D} : ∃ u', mLkB (Lk75 (SK xs E n ds us) (some c) (some (.int i)) u) = .ok .nx (Lk75 (SK xs E n ds us) (some c) (some (.int i)) u') := by
  have gs : goodB ("saying" : Str) = true := by decide
  by_cases hE : i ∈ E.map Prod.fst
  · obtain ⟨⟨j, p⟩, me, ej⟩ := List.mem_map.mp hE
    have ej : j = i := ej
    subst ej
    have v1 : mGetH 0 2 (mVar 2) (mTup (mCons (mC (.str "saying")) (mCons (mVar 2) mNil))) (Lk75 (SK xs E n ds us) (some c) (some (.int j)) u) = .ok (prD p) (Lk75 (SK xs E n ds us) (some c) (some (.int j)) u) := by
      refine getHV (i := 0) (j := 2) rfl rfl rfl rfl (tup2_val (m := mC (.str "saying")) (n := mVar 2) rfl rfl) ?_
      show some ((look (enK E) (.inl j)).getD _) = _
      rw [look_en h.nd me]; rfl
    have td := told_one (g := gX_Keeper__saying) (b := .non) mb_saying ((saying_ok (xs := xs) (E := E) (n := n) (ds := ds) (us := us) (i := j)).1 p h.nd me)
    have v2 := callFV (gd := gdK 1) (i := 0) (j := 1) (n := 3) (g := g__law_told_by) (ma := mCons (mC (.str "saying")) (mCons (mVar 2) (mCons (mC .non) mNil))) (ρ := Lk75 (SK xs E n ds us) (some c) (some (.int j)) (some (prD p))) rfl rfl rfl rfl rfl td
    obtain ⟨q1, q2⟩ := h.mem _ me
    exact ⟨_, seqV (setV' (i := 3) v1) (ifV_F (rep_ne (Rp.pr75 (h.gx.all _ q1) (h.gx.all _ q2)) (by decide) (by decide) v2 rfl) rfl)⟩
  · have v1 : mGetH 0 2 (mVar 2) (mTup (mCons (mC (.str "saying")) (mCons (mVar 2) mNil))) (Lk75 (SK xs E n ds us) (some c) (some (.int i)) u) = .ok (.tup [.str "saying", .int i]) (Lk75 (SK xs E n ds us) (some c) (some (.int i)) u) := by
      refine getHV (i := 0) (j := 2) rfl rfl rfl rfl (tup2_val (m := mC (.str "saying")) (n := mVar 2) rfl rfl) ?_
      show some ((look (enK E) (.inl i)).getD _) = _
      rw [look_none hE]; rfl
    have td := told_oneX (g := gX_Keeper__saying) (b := .non) mb_saying ((saying_ok (xs := xs) (E := E) (n := n) (ds := ds) (us := us) (i := i)).2 hE) (show KX.contains "NoSaying" = true by decide) (ref_saying (.int i))
    have v2 := callFV (gd := gdK 1) (i := 0) (j := 1) (n := 3) (g := g__law_told_by) (ma := mCons (mC (.str "saying")) (mCons (mVar 2) (mCons (mC .non) mNil))) (ρ := Lk75 (SK xs E n ds us) (some c) (some (.int i)) (some (.tup [.str "saying", .int i]))) rfl rfl rfl rfl rfl td
    have r : Rp (.tup [.str "saying", .int i]) 1 4100 := (Rp.two75 ((Rp.str gs).mono (Nat.le_refl _) (by omega)) (Rp.intZ (i := i) (by omega))).mono (Nat.le_refl _) (by omega)
    exact ⟨_, seqV (setV' (i := 3) v1) (ifV_F (rep_ne r (by decide) (by decide) v2 rfl) rfl)⟩
theorem look_for (h : KS t xs E n ds) {c : D} : ∀ {l : List D} {i u : Option D}, (∀ d ∈ l, ∃ j : Int, d = .int j ∧ j.natAbs ≤ 1000000) → ∃ i' u', mFor (kName 2) mLkB l (Lk75 (SK xs E n ds us) (some c) i u) = .ok .nx (Lk75 (SK xs E n ds us) (some c) i' u')
  | [], i, u, _ => ⟨i, u, rfl⟩
  | d :: l, i, u, hl => by
    obtain ⟨j, rfl, hj⟩ := hl d List.mem_cons_self
    obtain ⟨u1, e1⟩ := look_step (us := us) h hj (u := u) (c := c)
    obtain ⟨i2, u2, e2⟩ := look_for h (c := c) (l := l) (i := some (.int j)) (u := u1) fun d m => hl d (List.mem_cons_of_mem _ m)
    exact ⟨i2, u2, forN rfl e1 e2⟩
theorem looked_ok (h : KS t xs E n ds) (ht : t ≤ 100000) : g__law_looked [SK xs E n ds us] = .ok (.bl true) [some (SK xs E n ds us)] := by
  have n0 := h.n0
  have nt := h.nt
  have le := h.le
  obtain ⟨i', u', ef⟩ := look_for (us := us) h (c := .ob Str.empty []) (l := rangeD (-1) (n + 2 - (-1)).toNat) (i := none) (u := none) fun d m => by
    obtain ⟨j, hj, rfl⟩ := mem_range m
    exact ⟨_, rfl, by omega⟩
  refine run_rt (N := 4) (fx := 1) (m := m__law_looked) (ρ := (Lk75 (SK xs E n ds us) (some (.ob Str.empty [])) i' u').set 1 none) (aliasV (i := 0) (j := 1) (k := 1) (ρ := Lk75 (SK xs E n ds us) none none none) (c := Str.empty) rfl rfl ?_) rfl
  show mSeq _ _ (Lk75 (SK xs E n ds us) (some (.ob Str.empty [])) none none) = _
  have v1 := callFV (gd := gdK 1) (i := 0) (j := 1) (n := 0) (g := g_Keeper__numbers) (ma := mNil) (ρ := Lk75 (SK xs E n ds us) (some (.ob Str.empty [])) none none) rfl rfl rfl rfl rfl (numbers_ok (xs := xs) (E := E) (n := n) (ds := ds) (us := us))
  have v2 : mOp1 tupleD (mV (mOpL sortKD (mFd 0 2))) (Lk75 (SK xs E n ds us) (some (.ob Str.empty [])) none none) = .ok (NUMD E) (Lk75 (SK xs E n ds us) (some (.ob Str.empty [])) none none) := by
    refine op1V (opLV (f := sortKD) (fdV (i := 0) (j := 2) rfl rfl) (sortK_en (E := E) (by omega))) ?_
    unfold NUMD
    rw [num_map]; rfl
  have v3 := callFV (gd := gdK 1) (i := 0) (j := 1) (n := 0) (g := g_Keeper__half) (ma := mNil) (ρ := Lk75 (SK xs E n ds us) (some (.ob Str.empty [])) none none) rfl rfl rfl rfl rfl (half_ok (xs := xs) (E := E) (n := n) (ds := ds) (us := us) h.nd h.le)
  have v4 := call1V (i := 0) (n := 0) (g := g__law_half_of) (ma := mNil) (ρ := Lk75 (SK xs E n ds us) (some (.ob Str.empty [])) none none) rfl rfl rfl rfl (lhalf_ok (xs := xs) (E := E) (n := n) (ds := ds) (us := us) (k := KO xs E n ds us) h.nd h.le)
  refine seqV (ifV_F (orV (rep_ne (h.rpn ht) (by decide) (by decide) v1 v2) (rep_ne h.rp (by decide) (by decide) v3 v4)) rfl) ?_
  refine seqV (loopV ?_ ef) (retV rfl)
  have a1 : mOp2 addD (mV (mFd 0 3)) (mV (mC (.int 2))) (Lk75 (SK xs E n ds us) (some (.ob Str.empty [])) none none) = .ok (.int (n + 2)) (Lk75 (SK xs E n ds us) (some (.ob Str.empty [])) none none) := op2V (fdV (i := 0) (j := 3) rfl rfl) rfl (d_add _ _)
  rw [e_R2, consV (m := mOp1 negD (mV (mC (.int 1)))) (t := mCons (mOp2 addD (mV (mFd 0 3)) (mV (mC (.int 2)))) mNil) rfl (consV (t := mNil) a1 rfl), R.bind_ok]
  show mRng2 [.int (-1), .int (n + 2)] _ = _
  rw [e_rng2, if_pos (by omega)]
end
theorem lg75 {i : Int} (h : i.natAbs ≤ 1000000000000) : i.natAbs.log2 < 1920 := by
  by_cases z : i.natAbs = 0
  · rw [z]; decide
  · exact Nat.lt_trans ((Nat.log2_lt z).mpr (Nat.lt_of_le_of_lt h (by decide : 1000000000000 < 2 ^ 40))) (by decide)
theorem eq_rp75 (p : PyData) : eqD (.rp p) (.rp p) = some (.bl true) := by simp [eqD, eqB]
abbrev Ls75 (s : D) (a b : Str) (f o i : Option D) : DEnv := [some s, some (.str a), some (.str b), f, o, i]
noncomputable abbrev mSayB : MS := (mSeq (mLoop (kName 4) (mIfS (mTest (mOp2 ninD (mV (mVar 4)) (mV (mFd 0 0)))) (mRet (mOp2 eqD (mV (mVar 3)) (mV (mTup (mCons (mC (.str "name")) (mCons (mVar 4) mNil)))))) mNx) (mTs (mTup (mCons (mVar 1) (mCons (mVar 2) mNil)))))
  (mSeq (mIfS (mTest (mOp2 eqD (mV (mVar 1)) (mV (mVar 2)))) (mRet (mOp2 eqD (mV (mVar 3)) (mV (mTup (mCons (mC (.str "clash")) (mCons (mTup mNil) mNil)))))) mNx)
  (mSeq (mIfS (mTest (mOp2 inD (mV (mVar 1)) (mV (mCall0 2 g__law_behind (mCons (mCall1 0 0 g__law_half_of mNil) (mCons (mVar 2) mNil)))))) (mRet (mAndV (mOpN (two isiD) (mOCons (mV (mVar 3)) (mOCons (mV (mC (.ty "tuple"))) mONil))) (mAndV (mOp2 eqD (mV (mOp2 ixD (mV (mVar 3)) (mV (mC (.int 0))))) (mV (mC (.str "clash")))) (mCall1 0 3 g__law_is_way (mCons (mOp2 ixD (mV (mVar 3)) (mV (mC (.int 1)))) (mCons (mVar 2) (mCons (mVar 1) mNil))))))) mNx)
  (mSeq (mIfS (mTest (mOp2 eqD (mV (mOpL lenD (mFd 0 2))) (mV (mC (.int 60))))) (mRet (mOp2 eqD (mV (mVar 3)) (mV (mTup (mCons (mC (.str "many")) (mCons (mC (.str "sayings")) mNil)))))) mNx)
  (mSeq (mSet 5 (mFd 0 3))
  (mSeq (mPutH 0 2 (mVar 5) (mTup (mCons (mVar 1) (mCons (mVar 2) mNil))))
  (mSeq (mRset 0 3 "next" (mOp2 addD (mV (mVar 5)) (mV (mC (.int 1)))))
  (mSeq (mDrop (mMtH 0 4 appendD (mCons (mTup (mCons (mC (.bl true)) (mCons (mVar 5) (mCons (mTup (mCons (mVar 1) (mCons (mVar 2) mNil))) mNil)))) mNil)))
  (mSeq (mRset 0 5 "undone" (mLst mNil))
  (mRet (mOp2 eqD (mV (mOpN (one reprD) (mOCons (mV (mVar 3)) mONil))) (mV (mOpN (one strID) (mOCons (mV (mVar 5)) mONil))))))))))))))
noncomputable abbrev mSayC : MS := (mSeq (mIfS (mTest (mOp2 eqD (mV (mVar 1)) (mV (mVar 2)))) (mRet (mOp2 eqD (mV (mVar 3)) (mV (mTup (mCons (mC (.str "clash")) (mCons (mTup mNil) mNil)))))) mNx)
  (mSeq (mIfS (mTest (mOp2 inD (mV (mVar 1)) (mV (mCall0 2 g__law_behind (mCons (mCall1 0 0 g__law_half_of mNil) (mCons (mVar 2) mNil)))))) (mRet (mAndV (mOpN (two isiD) (mOCons (mV (mVar 3)) (mOCons (mV (mC (.ty "tuple"))) mONil))) (mAndV (mOp2 eqD (mV (mOp2 ixD (mV (mVar 3)) (mV (mC (.int 0))))) (mV (mC (.str "clash")))) (mCall1 0 3 g__law_is_way (mCons (mOp2 ixD (mV (mVar 3)) (mV (mC (.int 1)))) (mCons (mVar 2) (mCons (mVar 1) mNil))))))) mNx)
  (mSeq (mIfS (mTest (mOp2 eqD (mV (mOpL lenD (mFd 0 2))) (mV (mC (.int 60))))) (mRet (mOp2 eqD (mV (mVar 3)) (mV (mTup (mCons (mC (.str "many")) (mCons (mC (.str "sayings")) mNil)))))) mNx)
  (mSeq (mSet 5 (mFd 0 3))
  (mSeq (mPutH 0 2 (mVar 5) (mTup (mCons (mVar 1) (mCons (mVar 2) mNil))))
  (mSeq (mRset 0 3 "next" (mOp2 addD (mV (mVar 5)) (mV (mC (.int 1)))))
  (mSeq (mDrop (mMtH 0 4 appendD (mCons (mTup (mCons (mC (.bl true)) (mCons (mVar 5) (mCons (mTup (mCons (mVar 1) (mCons (mVar 2) mNil))) mNil)))) mNil)))
  (mSeq (mRset 0 5 "undone" (mLst mNil))
  (mRet (mOp2 eqD (mV (mOpN (one reprD) (mOCons (mV (mVar 3)) mONil))) (mV (mOpN (one strID) (mOCons (mV (mVar 5)) mONil)))))))))))))
theorem andT {m n : ME} {ρ ρ1 ρ2 : DEnv} (h1 : m ρ = .ok (.bl true) ρ1) (h2 : n ρ1 = .ok (.bl true) ρ2) : mAndV m n ρ = .ok (.bl true) ρ2 := by
  rw [e_andV, h1]
  simp only [R.bind_ok, e_asB, if_true, h2]
section
variable {t : Nat} {xs : List Str} {E : EN} {n : Int} {ds us : List D} {k : D} {a b : Str} {f o i : Option D}
theorem eq_tag {w : Str} {d : D} (h : d.pln = true) (hd : d.toPy.depth ≤ 50) : eqD (.tup [.str w, d]) (.tup [.str w, d]) = some (.bl true) := by
  refine eq_self (pln_tup (plnL_all fun e m => ?_)) (Nat.le_trans (dep_tup (k := 50) fun e m => ?_) (by decide))
  · rcases List.mem_cons.mp m with rfl | m
    · exact pln_str _
    · cases List.mem_singleton.mp m; exact h
  · rcases List.mem_cons.mp m with rfl | m
    · rw [dep_str]; exact Nat.zero_le _
    · cases List.mem_singleton.mp m; exact hd
theorem say_step {c : Str} {s : D} {v : D} (hs : ∃ fd, s = .ob Str.empty fd ∧ fd[0]? = some (("names" : Str), NT xs)) :
    (c ∈ xs → mIfS (mTest (mOp2 ninD (mV (mVar 4)) (mV (mFd 0 0)))) (mRet (mOp2 eqD (mV (mVar 3)) (mV (mTup (mCons (mC (.str "name")) (mCons (mVar 4) mNil)))))) mNx (Ls75 s a b (some v) (some (.str c)) i) = .ok .nx (Ls75 s a b (some v) (some (.str c)) i)) ∧
    (c ∉ xs → v = .tup [.str "name", .str c] → mIfS (mTest (mOp2 ninD (mV (mVar 4)) (mV (mFd 0 0)))) (mRet (mOp2 eqD (mV (mVar 3)) (mV (mTup (mCons (mC (.str "name")) (mCons (mVar 4) mNil)))))) mNx (Ls75 s a b (some v) (some (.str c)) i) = .ok (.rt (.bl true)) (Ls75 s a b (some v) (some (.str c)) i)) := by
  obtain ⟨fd, rfl, hfd⟩ := hs
  have t := testV (op2V (ma := mVar 4) (ρ := Ls75 (.ob Str.empty fd) a b (some v) (some (.str c)) i) rfl (fdV (i := 0) (j := 0) rfl hfd) (nin_tupS c xs))
  refine ⟨fun h => ?_, fun h e => ?_⟩
  · rw [decide_eq_true h] at t
    exact ifV_F t rfl
  · rw [decide_eq_false h] at t
    subst e
    exact ifV_T t (retV (op2V (f := eqD) (ma := mVar 3) rfl (tup2_val (m := mC (.str "name")) (n := mVar 4) rfl rfl) (eq_tag (pln_str c) (by rw [dep_str]; decide))))
/-- names that both are there -/
theorem sayB_in {r : R Fl} {v : D} (ha : a ∈ xs) (hb : b ∈ xs) (e : mSayC (Ls75 (SO xs k E n ds us) a b (some v) (some (.str b)) i) = r) : mSayB (Ls75 (SO xs k E n ds us) a b (some v) o i) = r := by
  have q := fun c : Str => (say_step (xs := xs) (a := a) (b := b) (i := i) (c := c) (s := SO xs k E n ds us) (v := v) ⟨_, rfl, rfl⟩).1
  exact seqV (loopV (ts_val (tup2_val (m := mVar 1) (n := mVar 2) rfl rfl)) (forN rfl (q a ha) (forN rfl (q b hb) rfl))) e
theorem lsay_fin {s1 : D} {v : D} {o' i' : Option D} (td : g__law_told_by [KO xs E n ds us, .str "say", .str a, .str b] = .ok v [some k]) (e : mSayB (Ls75 (SO xs k E n ds us) a b (some v) none none) = .ok (.rt (.bl true)) (Ls75 s1 a b (some v) o' i')) : g__law_say [SK xs E n ds us, .str a, .str b] = .ok (.bl true) [some s1] := by
  refine run_rt (N := 6) (fx := 1) (m := m__law_say) (ρ := Ls75 s1 a b (some v) o' i') ?_ rfl
  exact seqV (setV' (i := 3) (callFV (gd := gd0) (i := 0) (j := 1) (n := 3) (g := g__law_told_by) (ma := mCons (mC (.str "say")) (mCons (mVar 1) (mCons (mVar 2) mNil))) (ρ := Ls75 (SK xs E n ds us) a b none none none) rfl rfl rfl rfl rfl td)) e
/-- the test of the names behind -/
theorem say_in (h : KS t xs E n ds) {k : D} {v : D} : ∃ c : Bool, (c = true ↔ Rch (ordE E) b a) ∧ mTest (mOp2 inD (mV (mVar 1)) (mV (mCall0 2 g__law_behind (mCons (mCall1 0 0 g__law_half_of mNil) (mCons (mVar 2) mNil))))) (Ls75 (SO xs k E n ds us) a b (some v) o i) = .ok c (Ls75 (SO xs k E n ds us) a b (some v) o i) := by
  obtain ⟨fs, e1, e2⟩ := h.bh b
  have c1 := call1V (i := 0) (n := 0) (g := g__law_half_of) (ma := mNil) (ρ := Ls75 (SO xs k E n ds us) a b (some v) o i) rfl rfl rfl rfl (lhalf_ok (xs := xs) (E := E) (n := n) (ds := ds) (us := us) (k := k) h.nd h.le)
  have c2 := call0_2 (g := g__law_behind) (n := mVar 2) c1 rfl e1
  refine ⟨decide (a ∈ fs), by rw [decide_eq_true_iff]; exact e2 a, test_val (op2_val (f := inD) (ma := mVar 1) rfl c2 (in_tupS a fs))⟩
theorem lsay_ok (h : KS t xs E n ds) (ht : t ≤ 900) : ∃ E' n' ds' us', g__law_say [SK xs E n ds us, .str a, .str b] = .ok (.bl true) [some (SK xs E' n' ds' us')] ∧ KS (t + 1) xs E' n' ds' := by
  have stay : KS (t + 1) xs E n ds := h.mono (Nat.le_succ _)
  cases ho : odd2 xs a b with
  | some c =>
    have td := told_twoX (g := gX_Keeper__say) mb_say (say_odd (xs := xs) (E := E) (n := n) (ds := ds) (us := us) ho) (show KX.contains "NoName" = true by decide) (ref_name (.str c))
    refine ⟨E, n, ds, us, ?_, stay⟩
    have q := fun (c v) => say_step (xs := xs) (a := a) (b := b) (i := none) (c := c) (s := SO xs (KO xs E n ds us) E n ds us) (v := v) ⟨_, rfl, rfl⟩
    unfold odd2 at ho
    by_cases ha : a ∈ xs
    · rw [if_pos ha] at ho
      by_cases hb : b ∈ xs
      · rw [if_pos hb] at ho; cases ho
      · rw [if_neg hb] at ho
        cases ho
        exact lsay_fin td (seqR (loopV (ts_val (tup2_val (m := mVar 1) (n := mVar 2) rfl rfl)) (forN rfl ((q a _).1 ha) (forR rfl ((q b _).2 hb rfl)))))
    · rw [if_neg ha] at ho
      cases ho
      exact lsay_fin td (seqR (loopV (ts_val (tup2_val (m := mVar 1) (n := mVar 2) rfl rfl)) (forR rfl ((q a _).2 ha rfl))))
  | none =>
    obtain ⟨ha, hb⟩ : a ∈ xs ∧ b ∈ xs := by
      unfold odd2 at ho
      by_cases ha : a ∈ xs
      · rw [if_pos ha] at ho
        by_cases hb : b ∈ xs
        · exact ⟨ha, hb⟩
        · rw [if_neg hb] at ho; cases ho
      · rw [if_neg ha] at ho; cases ho
    have hob : odd2 xs b a = none := by unfold odd2; rw [if_pos hb, if_pos ha]
    have tE := fun (k v) (o i : Option D) => test_val (op2_val (f := eqD) (ma := mVar 1) (mb := mVar 2) (ρ := Ls75 (SO xs k E n ds us) a b (some v) o i) rfl rfl (eqs a b))
    by_cases hab : a = b
    · -- a ring of one
      have td := told_twoX (g := gX_Keeper__say) mb_say (say_clash (xs := xs) (E := E) (n := n) (ds := ds) (us := us) (l := []) ho (.inl ⟨hab, rfl⟩)) (show KX.contains "Clash" = true by decide) (ref_clash (.tup []))
      refine ⟨E, n, ds, us, lsay_fin (o' := some (.str b)) (i' := none) td (sayB_in ha hb ?_), stay⟩
      have q := tE (KO xs E n ds us) (.tup [.str "clash", .tup []]) (some (.str b)) none
      rw [decide_eq_true hab] at q
      exact seqR (ifV_T q (retV (op2V (f := eqD) (ma := mVar 3) rfl (tup2_val (m := mC (.str "clash")) (n := mTup mNil) rfl rfl) (eq_tag (by rw [D.pln, plnL]) (by decide)))))
    · obtain ⟨v, lv, lr⟩ := lead_ok (xs := xs) (E := E) (n := n) (ds := ds) (us := us) (a := b) (b := a) h.nd h.le hob
      rcases lr.way with ⟨rfl, q⟩ | ⟨_, rc, w, hw, rfl, ch⟩
      · have nr : ¬ Rch (ordE E) b a := q.resolve_left fun z => hab z.symm
        by_cases hl : E.length = 60
        · have td := told_twoX (g := gX_Keeper__say) mb_say (say_many (xs := xs) (E := E) (n := n) (ds := ds) (us := us) ho hab lv hl) (show KX.contains "TooMany" = true by decide) (ref_many (.str "sayings"))
          refine ⟨E, n, ds, us, lsay_fin (o' := some (.str b)) (i' := none) td (sayB_in ha hb ?_), stay⟩
          have q := tE (KO xs E n ds us) (.tup [.str "many", .str "sayings"]) (some (.str b)) none
          rw [decide_eq_false hab] at q
          obtain ⟨c, hc, tc⟩ := say_in (us := us) (a := a) (b := b) (o := some (.str b)) (i := none) h (k := KO xs E n ds us) (v := .tup [.str "many", .str "sayings"])
          have : c = false := by cases c with | false => rfl | true => exact absurd (hc.mp rfl) nr
          subst this
          have tl := test_val (op2_val (f := eqD) (mb := mC (.int 60)) (opLV (f := lenD) (fdV (i := 0) (j := 2) (ρ := Ls75 (SO xs (KO xs E n ds us) E n ds us) a b (some (.tup [.str "many", .str "sayings"])) (some (.str b)) none) rfl rfl) lenK_en) rfl (d_eqI _ _))
          rw [hl] at tl
          exact seqV (ifV_F q rfl) (seqV (ifV_F tc rfl) (seqR (ifV_T tl (retV (op2V (f := eqD) (ma := mVar 3) rfl (tup2_val (m := mC (.str "many")) (n := mC (.str "sayings")) rfl rfl) (eq_tag (pln_str _) (by rw [dep_str]; decide)))))))
        · have hl' : E.length < 60 := by have := h.le; omega
          have td := told_two (g := gX_Keeper__say) mb_say (say_ok (xs := xs) (E := E) (n := n) (ds := ds) (us := us) ho hab lv hl' h.new (by have := h.dl; omega))
          refine ⟨E ++ [(n, (a, b))], n + 1, ds ++ [deD true n (a, b)], [], lsay_fin (o' := some (.str b)) (i' := some (.int n)) td (sayB_in ha hb ?_), h.add ha hb hab nr hl' _⟩
          generalize hk : KO xs (E ++ [(n, (a, b))]) (n + 1) (ds ++ [deD true n (a, b)]) [] = k
          have q := tE k (.int n) (some (.str b)) none
          rw [decide_eq_false hab] at q
          obtain ⟨c, hc, tc⟩ := say_in (us := us) (a := a) (b := b) (o := some (.str b)) (i := none) h (k := k) (v := .int n)
          have : c = false := by cases c with | false => rfl | true => exact absurd (hc.mp rfl) nr
          subst this
          have tl := test_val (op2_val (f := eqD) (mb := mC (.int 60)) (opLV (f := lenD) (fdV (i := 0) (j := 2) (ρ := Ls75 (SO xs k E n ds us) a b (some (.int n)) (some (.str b)) none) rfl rfl) lenK_en) rfl (d_eqI _ _))
          rw [decide_eq_false (by omega)] at tl
          refine seqV (ifV_F q rfl) (seqV (ifV_F tc rfl) (seqV (ifV_F tl rfl) (seqV (setV' (i := 5) (fdV (i := 0) (j := 3) rfl rfl)) ?_)))
          have p1 := putHV (i := 0) (j := 2) (mc := mVar 5) (mv := mTup (mCons (mVar 1) (mCons (mVar 2) mNil))) (ρ := Ls75 (SO xs k E n ds us) a b (some (.int n)) (some (.str b)) (some (.int n))) (tup2_val (m := mVar 1) (n := mVar 2) rfl rfl) rfl rfl rfl rfl (by unfold enK; rw [List.length_map]; omega)
          rw [show D.tup [D.str a, D.str b] = prD (a, b) from rfl, put_en h.new] at p1
          refine seqV p1 ?_
          refine seqV (rsetV (i := 0) (j := 3) (d := .int (n + 1)) (ρ1 := Ls75 (SO xs k (E ++ [(n, (a, b))]) n ds us) a b (some (.int n)) (some (.str b)) (some (.int n))) (op2V (f := addD) rfl rfl (d_add _ _)) rfl (by show 3 < 6; decide)) ?_
          refine seqV (dropV (mtHV (i := 0) (j := 4) (es := [deD true n (a, b)]) (ρ := Ls75 (SO xs k (E ++ [(n, (a, b))]) (n + 1) ds us) a b (some (.int n)) (some (.str b)) (some (.int n))) rfl rfl (consV rfl rfl) (append_ok (by have := h.dl; omega)))) ?_
          refine seqV (rsetV (i := 0) (j := 5) (d := .lst []) (ρ1 := Ls75 (SO xs k (E ++ [(n, (a, b))]) (n + 1) (ds ++ [deD true n (a, b)]) us) a b (some (.int n)) (some (.str b)) (some (.int n))) rfl rfl (by show 5 < 6; decide)) ?_
          have nn : n.natAbs ≤ 1000000000000 := by have := h.n0; have := h.nt; omega
          have rv : mOpN (one reprD) (mOCons (mV (mVar 3)) mONil) (Ls75 (SO xs k (E ++ [(n, (a, b))]) (n + 1) (ds ++ [deD true n (a, b)]) []) a b (some (.int n)) (some (.str b)) (some (.int n))) = .ok (.rp (D.int n).toPy) (Ls75 (SO xs k (E ++ [(n, (a, b))]) (n + 1) (ds ++ [deD true n (a, b)]) []) a b (some (.int n)) (some (.str b)) (some (.int n))) := opSV rfl ((Rp.intZ nn).repr (by decide) (by decide))
          have sv : mOpN (one strID) (mOCons (mV (mVar 5)) mONil) (Ls75 (SO xs k (E ++ [(n, (a, b))]) (n + 1) (ds ++ [deD true n (a, b)]) []) a b (some (.int n)) (some (.str b)) (some (.int n))) = .ok (.rp (D.int n).toPy) (Ls75 (SO xs k (E ++ [(n, (a, b))]) (n + 1) (ds ++ [deD true n (a, b)]) []) a b (some (.int n)) (some (.str b)) (some (.int n))) := by
            refine opSV rfl ?_
            show (if n.natAbs.log2 < 1920 then some (D.rp (.int n)) else none) = _
            rw [if_pos (lg75 nn), D.toPy]
          subst hk
          exact retV (op2V (f := eqD) rv sv (eq_rp75 _))
      · -- a clash
        have td := told_twoX (g := gX_Keeper__say) mb_say (say_clash (xs := xs) (E := E) (n := n) (ds := ds) (us := us) (l := w.map .int) ho (.inr ⟨hab, lv⟩)) (show KX.contains "Clash" = true by decide) (ref_clash (.tup (w.map .int)))
        refine ⟨E, n, ds, us, lsay_fin (o' := some (.str b)) (i' := none) td (sayB_in ha hb ?_), stay⟩
        have q := tE (KO xs E n ds us) (.tup [.str "clash", .tup (w.map .int)]) (some (.str b)) none
        rw [decide_eq_false hab] at q
        obtain ⟨c, hc, tc⟩ := say_in (us := us) (a := a) (b := b) (o := some (.str b)) (i := none) h (k := KO xs E n ds us) (v := .tup [.str "clash", .tup (w.map .int)])
        have : c = true := hc.mpr rc
        subst this
        refine seqV (ifV_F q rfl) (seqR (ifV_T tc (retV (andT (two_opS (m := mVar 3) rfl rfl (isi_of (c := "tuple") rfl (by decide +kernel))) (andT (op2V (f := eqD) (op2V (f := ixD) (ma := mVar 3) (mb := mC (.int 0)) rfl rfl (show ixD (.tup [.str "clash", .tup (w.map .int)]) (.int 0) = some (.str "clash") from rfl)) rfl (?_ : eqD (.str "clash") (.str "clash") = some (.bl true))) ?_)))))
        · rw [eqs, decide_eq_true rfl]
        · exact call1V (i := 0) (n := 3) (g := g__law_is_way) (ds := [.tup (w.map .int), .str b, .str a]) (ρ := Ls75 (SO xs (KO xs E n ds us) E n ds us) a b (some (.tup [.str "clash", .tup (w.map .int)])) (some (.str b)) none) rfl (consV (op2V (f := ixD) (ma := mVar 3) (mb := mC (.int 1)) rfl rfl (show ixD (.tup [.str "clash", .tup (w.map .int)]) (.int 1) = some (.tup (w.map .int)) from rfl)) (consV rfl (consV rfl rfl))) rfl rfl (isway_ok h.nd hw ch)
end
theorem len_opS {f : D → Option D} {m : ME} {ρ : DEnv} {d v : D} (h : m ρ = .ok d ρ) (e : f d = some v := by rfl) : mOpN (one f) (mOCons (mV m) mONil) ρ = .ok v ρ := by
  rw [e_opN, e_oCons, e_V, h]
  simp only [R.bind_ok, e_oNil, e_getA, e_getA0, e_getv, Option.bind_some, e_one, e, R.of_some]
theorem lenD_tup (l : List D) : lenD (.tup l) = some (.int (l.length : Nat)) := rfl

abbrev LET : Str := "abcdefghijklmnopqrstuvwxyz"
def hasL (c : Nat) : Bool := !(Builtin.Str.occurrences LET ⟨#[c]⟩ 0 LET.length 1).isEmpty
def isN (x : Str) : Bool := decide (1 ≤ x.length) && decide (x.length ≤ 8) && x.cps.toList.all hasL
theorem isi_str (x : Str) : isiD (.str x) (.ty "str") = some (.bl true) := by
  have : kitB "str" "str" = some true := by decide +kernel
  show ((kitB "str" "str").bind fun b => some (D.bl b)) = some (D.bl true)
  rw [this]; rfl
theorem signs_len (x : Str) : (signs x).length = x.length := by unfold signs; rw [List.length_map, Array.length_toList]; rfl
theorem name_str (x : Str) : g_is_name [.str x] = .ok (.bl (isN x)) [] := by
  by_cases h : 1 ≤ x.length ∧ x.length ≤ 8
  · have lc := mLc_one (ρ := [some (.str x), none]) (ma := mSs (mVar 0)) (elt := mOp2 inD (mV (mVar 1)) (mV (mC (.str LET)))) (i := 1) (ds := signs x) (fun d => (inD d (.str LET)).getD .non) (by simp) (by rw [signs_len]; omega) (by simp) (fun d m => by
      obtain ⟨c, _, rfl⟩ := List.mem_map.mp m
      simp [inD, inB])
    have e : (signs x).map (fun d => (inD d (.str LET)).getD .non) = x.cps.toList.map fun c => .bl (hasL c) := by
      unfold signs
      rw [List.map_map]
      rfl
    rw [e] at lc
    have h1 : (1 : Int) ≤ x.length := by omega
    have h2 : (x.length : Int) ≤ 8 := by omega
    simp [g_is_name, m_is_name, isi_str, lenD, h.1, h.2, h1, h2, lc, allD, D.memL, asBls_map, R.noEx, isN, Function.comp_def]
  · have : isN x = false := by
      unfold isN
      by_cases h1 : 1 ≤ x.length
      · have : ¬ x.length ≤ 8 := fun z => h ⟨h1, z⟩
        simp [this]
      · simp [h1]
    rw [this]
    by_cases h1 : 1 ≤ x.length
    · have h2 : ¬ x.length ≤ 8 := fun z => h ⟨h1, z⟩
      have h2' : ¬ (x.length : Int) ≤ 8 := by omega
      have h1' : (1 : Int) ≤ x.length := by omega
      simp [g_is_name, m_is_name, isi_str, lenD, h1', h2', R.noEx]
    · have h1' : ¬ (1 : Int) ≤ x.length := by omega
      simp [g_is_name, m_is_name, isi_str, lenD, h1', R.noEx]
theorem hasL_low : ∀ i : Fin 26, hasL (97 + i.val) = true := by decide +kernel
theorem isN_good {x : Str} (h : goodB x = true) : isN x = true := by
  obtain ⟨h1, h2, h3⟩ := goodE h
  unfold isN
  rw [decide_eq_true h1, decide_eq_true h2, Bool.true_and, Bool.true_and, List.all_eq_true]
  intro c m
  obtain ⟨a, b⟩ := h3 c m
  have := hasL_low ⟨c - 97, by omega⟩
  have e : 97 + (c - 97) = c := by omega
  rwa [show (97 + (⟨c - 97, by omega⟩ : Fin 26).val) = c from e] at this
theorem run0 {m : MS} {N : Nat} {ds : List D} {v : D} (h : Sat (m (ds.map some ++ List.replicate (N - ds.length) none)) fun f _ => f = .rt v) : (runF N 0 m ds).noEx = .ok v [] := by
  obtain ⟨f, ρ, e, rfl⟩ := h
  rw [e_run, e, e_fin2, List.take_zero]; rfl

abbrev hfD (xs : List Str) (ss : SS) : D := .tup [.tup (xs.map .str), ssD ss]
theorem ne_int (i j : Int) : neD (.int i) (.int j) = some (.bl (!decide (i = j))) := by
  have h := d_eqI i j
  unfold eqD at h
  unfold neD
  cases q : eqB (.int i) (.int j) with
  | none => rw [q] at h; cases h
  | some b =>
    rw [q] at h
    have : b = decide (i = j) := by simpa using h
    rw [this]; rfl
theorem isi_tup (l : List D) : isiD (.tup l) (.ty "tuple") = some (.bl true) := isi_of (c := "tuple") rfl (by decide +kernel)
theorem all_true {α : Type} (l : List α) : allD (.lst (l.map fun _ => .bl true)) = some (.bl true) := by
  show (asBls (l.map fun _ => .bl true)).bind _ = _
  rw [asBls_map (fun _ => true), Option.bind_some]
  congr 2
  rw [List.all_map, List.all_eq_true]
  exact fun _ _ => rfl
theorem name_ok {x : Str} (h : goodB x = true) : g_is_name [.str x] = .ok (.bl true) [] := by
  have := name_str x
  rwa [isN_good h] at this
theorem names_good {xs : List Str} (g : GoodNs xs) (c : xs.length ≤ 10) : g_are_names [.tup (xs.map .str)] = .ok (.bl true) [] := by
  obtain ⟨n, e1, e2⟩ := lset_strs xs (by omega)
  have en : n = xs.length := e2.mpr g.nd
  subst en
  have ln : lenD (.tup (xs.map .str)) = some (.int (xs.length : Nat)) := by rw [lenD_tup, List.length_map]
  refine run0 (m := m_are_names) (N := 2) ?_
  unfold m_are_names
  change Sat (mSeq _ _ [some (.tup (xs.map .str)), none]) _
  have t2 := test_val (op2_val (f := gtD) (mb := mC (.int 10)) (len_opS (m := mVar 0) (ρ := [some (.tup (xs.map .str)), none]) rfl ln) rfl (d_gt _ _))
  rw [decide_eq_false (by omega)] at t2
  refine sat_skip (or_ff (not_t (test_val (two_opS rfl rfl (isi_tup _)))) t2) ?_
  have lc := lc_vmap (R := xs) (ma := mTs (mVar 0)) (elt := mCall0 1 g_is_name (mCons (mVar 1) mNil)) (i := 1) (ρ := [some (.tup (xs.map .str)), none]) .str (fun _ => .bl true) (ts_val rfl) (by omega) (by simp) fun z m => call0_1 rfl (name_ok (g.all z m))
  have q := op2_val (f := eqD) (len_opS (m := mVar 0) (ρ := [some (.tup (xs.map .str)), none]) rfl e1) (len_opS (f := lenD) (m := mVar 0) rfl ln) (by rw [d_eqI, decide_eq_true rfl])
  exact sat_ret (sat_of (andV_b (b := true) (c := true) (len_opS lc (all_true xs)) fun _ => q) rfl)
theorem form_good {xs : List Str} {ss : SS} (g : GoodNs xs) (c : xs.length ≤ 10) (ls : ss.length ≤ 60) : g_has_form [hfD xs ss] = .ok (.bl true) [] := by
  have lt : lenD (hfD xs ss) = some (.int 2) := rfl
  have l2 : lenD (ssD ss) = some (.int (ss.length : Nat)) := by
    show some (D.int ((ss.map prD).length : Nat)) = _
    rw [List.length_map]
  refine run0 (m := m_has_form) (N := 1) ?_
  unfold m_has_form
  change Sat (mSeq _ _ [some (hfD xs ss)]) _
  have t2 := test_val (op2_val (f := neD) (mb := mC (.int 2)) (len_opS (m := mVar 0) (ρ := [some (hfD xs ss)]) rfl lt) rfl (ne_int _ _))
  rw [decide_eq_true rfl] at t2
  have t3 := not_t (test_val (call0_1 (m := mOp2 ixD (mV (mVar 0)) (mV (mC (.int 0)))) (ρ := [some (hfD xs ss)]) (op2_val rfl rfl rfl) (names_good g c)))
  refine sat_skip (or_ff (not_t (test_val (two_opS rfl rfl (isi_tup _)))) (or_ff t2 t3)) ?_
  have q := op2_val (f := leD) (mb := mC (.int 60)) (len_opS (f := lenD) (m := mOp2 ixD (mV (mVar 0)) (mV (mC (.int 1)))) (ρ := [some (hfD xs ss)]) (op2_val rfl rfl rfl) l2) rfl (d_le _ _)
  rw [decide_eq_true (by omega)] at q
  exact sat_ret (sat_of (andV_b (b := true) (c := true) (two_opS (op2_val (r := ssD ss) rfl rfl rfl) rfl (isi_tup _)) fun _ => q) rfl)
section
variable {xs : List Str}
theorem rh_empty (g : GoodNs xs) (c : xs.length ≤ 10) : g_right_half [.tup [NT xs, .tup []]] = .ok (.bl true) [] := by
  have hf : g_has_form [.tup [NT xs, .tup []]] = .ok (.bl true) [] := form_good (ss := []) g c (by simp)
  refine run_rt (N := 6) (fx := 0) (m := m_right_half) (ρ := [some (.tup [NT xs, .tup []]), some (NT xs), some (.tup []), none, none, none]) ?_ rfl
  have t := not_t (test_val (call0_1 (m := mVar 0) (ρ := [some (.tup [NT xs, .tup []]), none, none, none, none, none]) rfl hf))
  refine seqV (ifV_F t rfl) (seqV (ρ1 := [some (.tup [NT xs, .tup []]), some (NT xs), some (.tup []), none, none, none]) rfl (seqV (ρ1 := [some (.tup [NT xs, .tup []]), some (NT xs), some (.tup []), none, none, none]) rfl (seqV (ρ1 := [some (.tup [NT xs, .tup []]), some (NT xs), some (.tup []), none, none, none]) rfl ?_)))
  exact retV rfl
theorem init_ok (g : GoodNs xs) (c : xs.length ≤ 10) : g_Keeper____init__ [.ob "Keeper" [], NT xs] = .ok .non [some (KO xs [] 0 [] [])] := by
  have i0 : isiD (NT xs) (.ty "list") = some (.bl false) := isi_of (c := "tuple") rfl (by decide +kernel)
  have t := test_val (two_opS (f := isiD) (m := mVar 1) (n := mC (.ty "list")) (ρ := [some (.ob "Keeper" []), some (NT xs), some (NT xs)]) rfl rfl i0)
  refine run_nx (N := 3) (fx := 1) (m := m_Keeper____init__) (ρ := [some (KO xs [] 0 [] []), some (NT xs), some (NT xs)]) ?_ rfl
  refine seqV (ρ1 := [some (.ob "Keeper" []), some (NT xs), some (NT xs)]) rfl (seqV (ifV_F t rfl) ?_)
  have rh := call0_1 (g := g_right_half) (m := mTup (mCons (mVar 2) (mCons (mTup mNil) mNil))) (ρ := [some (.ob "Keeper" []), some (NT xs), some (NT xs)]) (tup2_val (m := mVar 2) (n := mTup mNil) rfl rfl) (rh_empty g c)
  exact seqV (dropV rh) rfl
theorem side_ok {k : D} : g__law_side [NT xs, k] = .ok (SO xs k [] 0 [] []) [] := rfl
end
section
variable {t : Nat} {xs : List Str} {E : EN} {n : Int} {ds us : List D} {a b : Str}
abbrev La75 (s : D) (a b : Str) (h w k : Option D) : DEnv := [some s, some (.str a), some (.str b), h, w, k]
theorem asked_in (h : KS t xs E n ds) {s : D} {x y : Str} {h' w k : Option D} {mx my : ME} (hx : mx (La75 s a b (some (.tup [NT xs, ssD (ordE E)])) w k) = .ok (.str x) (La75 s a b (some (.tup [NT xs, ssD (ordE E)])) w k)) (hy : my (La75 s a b (some (.tup [NT xs, ssD (ordE E)])) w k) = .ok (.str y) (La75 s a b (some (.tup [NT xs, ssD (ordE E)])) w k)) :
    ∃ c : Bool, (c = true ↔ Rch (ordE E) y x) ∧ mTest (mOp2 inD (mV mx) (mV (mCall0 2 g__law_behind (mCons (mVar 3) (mCons my mNil))))) (La75 s a b (some (.tup [NT xs, ssD (ordE E)])) w k) = .ok c (La75 s a b (some (.tup [NT xs, ssD (ordE E)])) w k) := by
  obtain ⟨fs, e1, e2⟩ := h.bh y
  exact ⟨decide (x ∈ fs), by rw [decide_eq_true_iff]; exact e2 x, test_val (op2_val (f := inD) hx (call0_2 (g := g__law_behind) (m := mVar 3) rfl hy e1) (in_tupS x fs))⟩
theorem asked_ok (h : KS t xs E n ds) (ha : a ∈ xs) (hb : b ∈ xs) : g__law_asked [SK xs E n ds us, .str a, .str b] = .ok (.bl true) [some (SK xs E n ds us)] := by
  have ho : odd2 xs a b = none := by unfold odd2; rw [if_pos ha, if_pos hb]
  have hob : odd2 xs b a = none := by unfold odd2; rw [if_pos hb, if_pos ha]
  obtain ⟨v, lv, lr⟩ := lead_ok (xs := xs) (E := E) (n := n) (ds := ds) (us := us) h.nd h.le ho
  obtain ⟨w, lw, lr2⟩ := lead_ok (xs := xs) (E := E) (n := n) (ds := ds) (us := us) h.nd h.le hob
  have td := told_two (g := gX_Keeper__lead) mb_lead lv
  have kn := fun (bv bw : Bool) q1 q2 => told_two (g := gX_Keeper__knows) mb_knows (knows_ok (bv := bv) (bw := bw) lv lw q1 q2)
  -- the begin
  have go : ∀ {kd : D} {r : R Fl}, g__law_told_by [KO xs E n ds us, .str "knows", .str a, .str b] = .ok kd [some (KO xs E n ds us)] → (∀ z : D, z = SK xs E n ds us → (mSeq (mIfS (mTest (mOp2 inD (mV (mVar 2)) (mV (mCall0 2 g__law_behind (mCons (mVar 3) (mCons (mVar 1) mNil)))))) (mRet (mAndV (mOp2 isBD (mV (mVar 5)) (mV (mC (.bl true)))) (mCall1 0 3 g__law_is_way (mCons (mVar 4) (mCons (mVar 1) (mCons (mVar 2) mNil)))))) mNx)
      (mSeq (mIfS (mOr (mTest (mOp2 eqD (mV (mVar 1)) (mV (mVar 2)))) (mTest (mOp2 inD (mV (mVar 1)) (mV (mCall0 2 g__law_behind (mCons (mVar 3) (mCons (mVar 2) mNil))))))) (mRet (mAndV (mOp2 isBD (mV (mVar 5)) (mV (mC (.bl false)))) (mOp2 isND (mV (mVar 4)) (mV (mC .non))))) mNx)
      (mRet (mAndV (mOp2 isND (mV (mVar 5)) (mV (mC .non))) (mOp2 isND (mV (mVar 4)) (mV (mC .non))))))) (La75 z a b (some (.tup [NT xs, ssD (ordE E)])) (some v) (some kd)) = r) →
      m__law_asked (La75 (SK xs E n ds us) a b none none none) = r := fun {kd r} k1 k2 => by
    refine seqV (setV' (i := 3) (call1V (i := 0) (n := 0) (g := g__law_half_of) (ma := mNil) (ρ := La75 (SK xs E n ds us) a b none none none) rfl rfl rfl rfl (lhalf_ok (xs := xs) (E := E) (n := n) (ds := ds) (us := us) (k := KO xs E n ds us) h.nd h.le))) ?_
    refine seqV (setV' (i := 4) (callFV (gd := gd0) (i := 0) (j := 1) (n := 3) (g := g__law_told_by) (ma := mCons (mC (.str "lead")) (mCons (mVar 1) (mCons (mVar 2) mNil))) (ρ := La75 (SK xs E n ds us) a b (some (.tup [NT xs, ssD (ordE E)])) none none) rfl rfl rfl rfl rfl td)) ?_
    refine seqV (setV' (i := 5) (callFV (gd := gd0) (i := 0) (j := 1) (n := 3) (g := g__law_told_by) (ma := mCons (mC (.str "knows")) (mCons (mVar 1) (mCons (mVar 2) mNil))) (ρ := La75 (SK xs E n ds us) a b (some (.tup [NT xs, ssD (ordE E)])) (some v) none) rfl rfl rfl rfl rfl k1)) ?_
    exact k2 _ rfl
  have fin : ∀ {kd : D}, m__law_asked (La75 (SK xs E n ds us) a b none none none) = .ok (.rt (.bl true)) (La75 (SK xs E n ds us) a b (some (.tup [NT xs, ssD (ordE E)])) (some v) (some kd)) → g__law_asked [SK xs E n ds us, .str a, .str b] = .ok (.bl true) [some (SK xs E n ds us)] := fun {kd} e => run_rt (N := 6) (fx := 1) (m := m__law_asked) (ρ := La75 (SK xs E n ds us) a b (some (.tup [NT xs, ssD (ordE E)])) (some v) (some kd)) e rfl
  have i1 := fun (s : D) (kd : D) => asked_in (a := a) (b := b) h (s := s) (x := b) (y := a) (h' := none) (w := some v) (k := some kd) (mx := mVar 2) (my := mVar 1) rfl rfl
  have i2 := fun (s : D) (kd : D) => asked_in (a := a) (b := b) h (s := s) (x := a) (y := b) (h' := none) (w := some v) (k := some kd) (mx := mVar 1) (my := mVar 2) rfl rfl
  rcases lr.way with ⟨rfl, q⟩ | ⟨hab, rc, ws, hw, rfl, ch⟩
  · -- none leads from a to b
    have nr : ¬ Rch (ordE E) a b := fun r => by
      rcases q with q | q
      · subst q; exact h.acy _ r
      · exact q r
    rcases lr2.way with ⟨rfl, q2⟩ | ⟨hba, rc2, ws, hw, rfl, ch⟩
    · have nr2 : ¬ Rch (ordE E) b a := fun r => by
        rcases q2 with q2 | q2
        · subst q2; exact h.acy _ r
        · exact q2 r
      have k1 := kn false false rfl rfl
      rw [if_neg Bool.false_ne_true, Bool.or_false] at k1
      by_cases hab : a = b
      · rw [decide_eq_true hab, if_pos rfl] at k1
        refine fin (kd := .bl false) (go k1 fun z ez => ?_)
        obtain ⟨c, hc, tc⟩ := i1 z (.bl false)
        have : c = false := by cases c with | false => rfl | true => exact absurd (hc.mp rfl) nr
        subst this
        obtain ⟨c2, _, tc2⟩ := i2 z (.bl false)
        have te := test_val (op2_val (f := eqD) (ma := mVar 1) (mb := mVar 2) (ρ := La75 z a b (some (.tup [NT xs, ssD (ordE E)])) (some .non) (some (.bl false))) rfl rfl (eqs a b))
        rw [decide_eq_true hab] at te
        subst ez
        exact seqV (ifV_F tc rfl) (seqR (ifV_T (orV te tc2) (retV (andT (op2_val (f := isBD) (ma := mVar 5) (mb := mC (.bl false)) rfl rfl rfl) (op2_val (f := isND) (ma := mVar 4) (mb := mC .non) rfl rfl rfl)))))
      · rw [decide_eq_false hab, if_neg Bool.false_ne_true] at k1
        refine fin (kd := .non) (go k1 fun z ez => ?_)
        obtain ⟨c, hc, tc⟩ := i1 z .non
        have : c = false := by cases c with | false => rfl | true => exact absurd (hc.mp rfl) nr
        subst this
        obtain ⟨c2, hc2, tc2⟩ := i2 z .non
        have : c2 = false := by cases c2 with | false => rfl | true => exact absurd (hc2.mp rfl) nr2
        subst this
        have te := test_val (op2_val (f := eqD) (ma := mVar 1) (mb := mVar 2) (ρ := La75 z a b (some (.tup [NT xs, ssD (ordE E)])) (some .non) (some .non)) rfl rfl (eqs a b))
        rw [decide_eq_false hab] at te
        subst ez
        exact seqV (ifV_F tc rfl) (seqV (ifV_F (orV te tc2) rfl) (retV (andT (op2_val (f := isND) (ma := mVar 5) (mb := mC .non) rfl rfl rfl) (op2_val (f := isND) (ma := mVar 4) (mb := mC .non) rfl rfl rfl))))
    · have k1 := kn false true rfl rfl
      rw [if_neg Bool.false_ne_true, Bool.or_true, if_pos rfl] at k1
      refine fin (kd := .bl false) (go k1 fun z ez => ?_)
      obtain ⟨c, hc, tc⟩ := i1 z (.bl false)
      have : c = false := by cases c with | false => rfl | true => exact absurd (hc.mp rfl) nr
      subst this
      obtain ⟨c2, hc2, tc2⟩ := i2 z (.bl false)
      have : c2 = true := hc2.mpr rc2
      subst this
      have te := test_val (op2_val (f := eqD) (ma := mVar 1) (mb := mVar 2) (ρ := La75 z a b (some (.tup [NT xs, ssD (ordE E)])) (some .non) (some (.bl false))) rfl rfl (eqs a b))
      have to := orV te tc2
      rw [Bool.or_true] at to
      subst ez
      exact seqV (ifV_F tc rfl) (seqR (ifV_T to (retV (andT (op2_val (f := isBD) (ma := mVar 5) (mb := mC (.bl false)) rfl rfl rfl) (op2_val (f := isND) (ma := mVar 4) (mb := mC .non) rfl rfl rfl)))))
  · -- a way
    obtain ⟨bw, qw⟩ : ∃ bw, notND w .non = some (.bl bw) := ⟨_, rfl⟩
    have k1 := kn true bw rfl qw
    rw [if_pos rfl] at k1
    refine fin (kd := .bl true) (go k1 fun z ez => ?_)
    obtain ⟨c, hc, tc⟩ := i1 z (.bl true)
    have : c = true := hc.mpr rc
    subst this
    subst ez
    exact seqR (ifV_T tc (retV (andT (op2_val (f := isBD) (ma := mVar 5) (mb := mC (.bl true)) rfl rfl rfl) (call1V (i := 0) (n := 3) (g := g__law_is_way) (ds := [.tup (ws.map .int), .str a, .str b]) (ρ := La75 (SK xs E n ds us) a b (some (.tup [NT xs, ssD (ordE E)])) (some (.tup (ws.map .int))) (some (.bl true))) rfl (consV rfl (consV rfl (consV rfl rfl))) rfl rfl (isway_ok h.nd hw ch)))))
end
theorem drawV {ρ : DEnv} {d d' : D} {n r : Int} (h : ρ[1]? = some (some d)) (e : g__law_draw [d, .int n] = .ok (.int r) [some d']) {m : ME} (hm : m ρ = .ok (.int n) ρ) : mCall1 1 1 g__law_draw (mCons m mNil) ρ = .ok (.int r) (ρ.set 1 (some d')) := call1V h (consV hm rfl) h rfl e
theorem slV {m mc : ME} {ρ ρ1 : DEnv} {d e : D} {k : Int} (h : m ρ = .ok d ρ) (hc : mc ρ = .ok (.int k) ρ1) (q : cutD none (some k) d = some e) : mSl cutD (mV m) mNoPart (mPart mc) ρ = .ok e ρ1 := by
  rw [e_sl, e_V, h]
  simp only [R.bind_ok, e_noPart, e_part, hc, e_asI, e_getv, Option.bind_some, q, R.of_some]
theorem notV {t : MT} {ρ ρ1 : DEnv} {b : Bool} (h : t ρ = .ok b ρ1) : mNot t ρ = .ok (!b) ρ1 := by rw [e_not, h]; rfl
theorem callN2V {g : List D → R D} {me md : ME} {ρ ρ1 ρ2 ρ' : DEnv} {d d2 r : D} (h1 : me ρ = .ok d ρ1) (h2 : md ρ1 = .ok d2 ρ2) (e : g [d, d2] = .ok r ρ') : mCallN2 g me md ρ = .ok r ρ2 := by
  unfold mCallN2
  rw [h1, R.bind_ok, h2, R.bind_ok, e]
theorem newV {c : Str} {n : Nat} {g : List D → R D} {ma : MA} {ρ ρ1 : DEnv} {ds : List D} {o : D} (h : ma ρ = .ok ds ρ1) (hn : ds.length = n) (e : g (.ob c [] :: ds) = .ok .non [some o]) : mNew c n g ma ρ = .ok o ρ1 := by
  unfold mNew
  rw [h, R.bind_ok, if_pos hn, e]
theorem ix_lstS {l : List Str} {r : Int} (h0 : 0 ≤ r) (h1 : r < l.length) : ∃ x ∈ l, ixD (.lst (l.map .str)) (.int r) = some (.str x) := by
  obtain ⟨v, e, m⟩ := atI_in (xs := l.map D.str) h0 (by rw [List.length_map]; exact h1)
  obtain ⟨x, mx, rfl⟩ := List.mem_map.mp m
  exact ⟨x, mx, e⟩
abbrev Lw75 (sc d : D) (xs : List Str) (s : D) (tu so na wo ot : Option D) : DEnv := [some sc, some d, some (.lst (xs.map .str)), some s, tu, so, na, wo, ot]
noncomputable abbrev mAskI : MS := (mIfS (mTest (mOp2 neL0D (mV (mLc (mLs (mVar 2)) (kName 8) (mNot (mTest (mCall1 3 2 g__law_asked (mCons (mVar 6) (mCons (mVar 8) mNil))))) (mC (.int 1)) [8])) (mV (mLst mNil)))) (mRet (mC (.bl false))) mNx)
section
variable {t : Nat} {xs : List Str} {E : EN} {n : Int} {ds us : List D} {sc d : D} {tu so na wo ot : Option D}
theorem ask_one (h : KS t xs E n ds) {x : Str} (hx : x ∈ xs) : mAskI (Lw75 sc d xs (SK xs E n ds us) tu so (some (.str x)) wo ot) = .ok .nx (Lw75 sc d xs (SK xs E n ds us) tu so (some (.str x)) wo ot) := by
  have lc := lc_var (ma := mLs (mVar 2)) (test := mNot (mTest (mCall1 3 2 g__law_asked (mCons (mVar 6) (mCons (mVar 8) mNil))))) (elt := mC (.int 1)) (i := 8) (ρ := Lw75 sc d xs (SK xs E n ds us) tu so (some (.str x)) wo ot) (R := xs) .str (fun _ => false) (fun _ => .int 1) (ls_val (m := mVar 2) rfl) (by have := h.lx; omega) (by show 8 < 9; decide) (fun y my => by
    have q := call1V (i := 3) (n := 2) (g := g__law_asked) (ma := mCons (mVar 6) (mCons (mVar 8) mNil)) (ρ := Lw75 sc d xs (SK xs E n ds us) tu so (some (.str x)) wo (some (.str y))) rfl rfl rfl rfl (asked_ok (us := us) h hx my)
    exact notV (testV q)) (fun _ _ _ => rfl)
  have e0 : (List.filter (fun _ => false) xs).map (fun _ : Str => D.int 1) = [] := by simp
  rw [e0] at lc
  exact ifV_F (test_val (op2_val (f := neL0D) (mb := mLst mNil) lc rfl rfl)) rfl
theorem ask_for (h : KS t xs E n ds) : ∀ {l : List Str} {na : Option D}, (∀ x ∈ l, x ∈ xs) → ∃ na', mFor (kName 6) mAskI (l.map .str) (Lw75 sc d xs (SK xs E n ds us) tu so na wo ot) = .ok .nx (Lw75 sc d xs (SK xs E n ds us) tu so na' wo ot)
  | [], na, _ => ⟨na, rfl⟩
  | x :: l, na, hl => by
    obtain ⟨na', e⟩ := ask_for h (l := l) (na := some (.str x)) fun y m => hl y (List.mem_cons_of_mem _ m)
    exact ⟨na', forN rfl (ask_one h (hl x List.mem_cons_self)) e⟩
theorem ask_all (h : KS t xs E n ds) : ∃ na', mLoop (kName 6) mAskI (mLs (mVar 2)) (Lw75 sc d xs (SK xs E n ds us) tu so na wo ot) = .ok .nx (Lw75 sc d xs (SK xs E n ds us) tu so na' wo ot) := by
  obtain ⟨na', e⟩ := ask_for (us := us) (sc := sc) (d := d) (tu := tu) (so := so) (wo := wo) (ot := ot) h (l := xs) (na := na) fun _ m => m
  exact ⟨na', loopV (ls_val (m := mVar 2) rfl) e⟩
noncomputable abbrev mTurn : MS := (mSeq (mSet 5 (mOp2 addD (mV (mVar 2)) (mV (mSl cutD (mV (mLst (mCons (mC (.str "zzz")) (mCons (mC (.str "q")) mNil)))) mNoPart (mPart (mOp2 fdivD (mV (mCall1 1 1 g__law_draw (mCons (mC (.int 9)) mNil))) (mV (mC (.int 7)))))))))
  (mSeq (mIfS (mNot (mTest (mCall1 3 2 g__law_say (mCons (mOp2 ixD (mV (mVar 5)) (mV (mCall1 1 1 g__law_draw (mCons (mOpN (one lenD) (mOCons (mV (mVar 5)) mONil)) mNil)))) (mCons (mOp2 ixD (mV (mVar 5)) (mV (mCall1 1 1 g__law_draw (mCons (mOpN (one lenD) (mOCons (mV (mVar 5)) mONil)) mNil)))) mNil))))) (mRet (mC (.bl false))) mNx)
  (mSeq (mIfS (mAnd (mTest (mOp2 eqD (mV (mCall1 1 1 g__law_draw (mCons (mC (.int 4)) mNil))) (mV (mC (.int 0))))) (mNot (mTest (mCall1 3 0 g__law_looked mNil)))) (mRet (mC (.bl false))) mNx)
  (mIfS (mTest (mOp2 eqD (mV (mCall1 1 1 g__law_draw (mCons (mC (.int 6)) mNil))) (mV (mC (.int 0))))) (mLoop (kName 6) mAskI (mLs (mVar 2))) mNx))))
theorem turn_ok (h : KS t xs E n ds) (ht : t ≤ 900) (x1 : 1 ≤ xs.length) (fd : Feed d) : ∃ d' E' n' ds' us' so' na', mTurn (Lw75 sc d xs (SK xs E n ds us) tu so na wo ot) = .ok .nx (Lw75 sc d' xs (SK xs E' n' ds' us') tu so' na' wo ot) ∧ Feed d' ∧ KS (t + 1) xs E' n' ds' := by
  have lx := h.lx
  obtain ⟨r1, d1, e1, fd1, a1, b1⟩ := draw_ok (n := 9) fd (by decide) (by decide)
  obtain ⟨some_, hlen, hadd⟩ : ∃ l : List Str, (1 ≤ l.length ∧ l.length ≤ 20) ∧ ∃ e, cutD none (some (r1 / 7)) (.lst [.str "zzz", .str "q"]) = some e ∧ addD (.lst (xs.map .str)) e = some (.lst (l.map .str)) := by
    have hr : r1 / 7 = 0 ∨ r1 / 7 = 1 := by omega
    rcases hr with hr | hr
    · refine ⟨xs, ⟨x1, by omega⟩, .lst [], by rw [hr]; rfl, ?_⟩
      rw [d_addL, if_pos (by rw [List.length_map]; simp; omega), List.append_nil]
    · refine ⟨xs ++ [("zzz" : Str)], ⟨by rw [List.length_append]; omega, by rw [List.length_append, List.length_singleton]; omega⟩, .lst [.str "zzz"], by rw [hr]; rfl, ?_⟩
      rw [d_addL, if_pos (by rw [List.length_map]; simp; omega), List.map_append]; rfl
  obtain ⟨ex, hcut, hadd⟩ := hadd
  have v1 := op2V (f := fdivD) (mb := mC (.int 7)) (drawV (m := mC (.int 9)) (ρ := Lw75 sc d xs (SK xs E n ds us) tu so na wo ot) rfl e1 rfl) rfl (show fdivD (.int r1) (.int 7) = some (.int (r1 / 7)) by rw [d_fdiv, if_pos (by decide)])
  have v2 := op2V (f := addD) (ma := mVar 2) (ρ := Lw75 sc d xs (SK xs E n ds us) tu so na wo ot) rfl (slV (m := mLst (mCons (mC (.str "zzz")) (mCons (mC (.str "q")) mNil))) rfl v1 hcut) hadd
  have s1 := setV' (i := 5) v2
  change _ = R.ok _ (Lw75 sc d1 xs (SK xs E n ds us) tu (some (.lst (some_.map .str))) na wo ot) at s1
  -- the saying
  have ll : lenD (.lst (some_.map .str)) = some (.int (some_.length : Nat)) := by
    show some (D.int ((some_.map D.str).length : Nat)) = _
    rw [List.length_map]
  obtain ⟨r2, d2, e2, fd2, a2, b2⟩ := draw_ok (n := (some_.length : Nat)) fd1 (by omega) (by omega)
  obtain ⟨r3, d3, e3, fd3, a3, b3⟩ := draw_ok (n := (some_.length : Nat)) fd2 (by omega) (by omega)
  obtain ⟨x, _, ix⟩ := ix_lstS (l := some_) a2 (by omega)
  obtain ⟨y, _, iy⟩ := ix_lstS (l := some_) a3 (by omega)
  have w1 := op2V (f := ixD) (ma := mVar 5) (ρ := Lw75 sc d1 xs (SK xs E n ds us) tu (some (.lst (some_.map .str))) na wo ot) rfl (drawV (m := mOpN (one lenD) (mOCons (mV (mVar 5)) mONil)) (ρ := Lw75 sc d1 xs (SK xs E n ds us) tu (some (.lst (some_.map .str))) na wo ot) rfl e2 (opSV rfl ll)) ix
  have w2 := op2V (f := ixD) (ma := mVar 5) (ρ := Lw75 sc d2 xs (SK xs E n ds us) tu (some (.lst (some_.map .str))) na wo ot) rfl (drawV (m := mOpN (one lenD) (mOCons (mV (mVar 5)) mONil)) (ρ := Lw75 sc d2 xs (SK xs E n ds us) tu (some (.lst (some_.map .str))) na wo ot) rfl e3 (opSV rfl ll)) iy
  obtain ⟨E', n', ds', us', es, h'⟩ := lsay_ok (us := us) (a := x) (b := y) h ht
  have w3 := call1V (i := 3) (n := 2) (g := g__law_say) (ρ := Lw75 sc d1 xs (SK xs E n ds us) tu (some (.lst (some_.map .str))) na wo ot) rfl (consV w1 (consV (t := mNil) w2 rfl)) rfl rfl es
  have w4 := notV (testV w3)
  -- looked
  obtain ⟨r4, d4, e4, fd4, a4, b4⟩ := draw_ok (n := 4) fd3 (by decide) (by decide)
  have lk := call1V (i := 3) (n := 0) (g := g__law_looked) (ma := mNil) (ρ := Lw75 sc d4 xs (SK xs E' n' ds' us') tu (some (.lst (some_.map .str))) na wo ot) rfl rfl rfl rfl (looked_ok (us := us') h' (by omega))
  have t4 := testV (op2V (f := eqD) (mb := mC (.int 0)) (drawV (m := mC (.int 4)) (ρ := Lw75 sc d3 xs (SK xs E' n' ds' us') tu (some (.lst (some_.map .str))) na wo ot) rfl e4 rfl) rfl (d_eqI _ _))
  have t5 : mAnd (mTest (mOp2 eqD (mV (mCall1 1 1 g__law_draw (mCons (mC (.int 4)) mNil))) (mV (mC (.int 0))))) (mNot (mTest (mCall1 3 0 g__law_looked mNil))) (Lw75 sc d3 xs (SK xs E' n' ds' us') tu (some (.lst (some_.map .str))) na wo ot) = .ok false (Lw75 sc d4 xs (SK xs E' n' ds' us') tu (some (.lst (some_.map .str))) na wo ot) := by
    rw [e_and, t4, R.bind_ok]
    by_cases c : r4 = 0
    · rw [decide_eq_true c, if_pos rfl]
      exact notV (testV lk)
    · rw [decide_eq_false c, if_neg Bool.false_ne_true]; rfl
  -- asked
  obtain ⟨r5, d5, e5, fd5, a5, b5⟩ := draw_ok (n := 6) fd4 (by decide) (by decide)
  have t6 := testV (op2V (f := eqD) (mb := mC (.int 0)) (drawV (m := mC (.int 6)) (ρ := Lw75 sc d4 xs (SK xs E' n' ds' us') tu (some (.lst (some_.map .str))) na wo ot) rfl e5 rfl) rfl (d_eqI _ _))
  obtain ⟨na', al⟩ := ask_all (us := us') (sc := sc) (d := d5) (tu := tu) (so := some (.lst (some_.map .str))) (na := na) (wo := wo) (ot := ot) h'
  by_cases c : r5 = 0
  · rw [decide_eq_true c] at t6
    exact ⟨d5, E', n', ds', us', _, _, seqV s1 (seqV (ifV_F w4 rfl) (seqV (ifV_F t5 rfl) (ifV_T t6 al))), fd5, h'⟩
  · rw [decide_eq_false c] at t6
    exact ⟨d5, E', n', ds', us', _, _, seqV s1 (seqV (ifV_F w4 rfl) (seqV (ifV_F t5 rfl) (ifV_F t6 rfl))), fd5, h'⟩
theorem turns_ok : ∀ {l : List D} {t : Nat} {E : EN} {n : Int} {ds us : List D} {d : D} {tu so na : Option D}, KS t xs E n ds → t + l.length ≤ 900 → 1 ≤ xs.length → Feed d → ∃ d' E' n' ds' us' tu' so' na', mFor (kName 4) mTurn l (Lw75 sc d xs (SK xs E n ds us) tu so na wo ot) = .ok .nx (Lw75 sc d' xs (SK xs E' n' ds' us') tu' so' na' wo ot) ∧ Feed d' ∧ KS 900 xs E' n' ds'
  | [], t, E, n, ds, us, d, tu, so, na, h, ht, x1, fd => ⟨d, E, n, ds, us, tu, so, na, rfl, fd, h.mono (by simpa using ht)⟩
  | z :: l, t, E, n, ds, us, d, tu, so, na, h, ht, x1, fd => by
    rw [List.length_cons] at ht
    obtain ⟨d1, E1, n1, ds1, us1, so1, na1, e1, fd1, h1⟩ := turn_ok (us := us) (sc := sc) (tu := some z) (so := so) (na := na) (wo := wo) (ot := ot) h (by omega) x1 fd
    obtain ⟨d2, E2, n2, ds2, us2, tu2, so2, na2, e2, fd2, h2⟩ := turns_ok (l := l) (us := us1) (tu := some z) (so := so1) (na := na1) h1 (by omega) x1 fd1
    exact ⟨d2, E2, n2, ds2, us2, tu2, so2, na2, forN rfl e1 e2, fd2, h2⟩
noncomputable abbrev mWord : MS := (mSeq (mIfS (mTest (mOp2 neD (mV (mCallF gd0 3 1 3 g__law_told_by (mCons (mVar 7) (mCons (mOp2 ixD (mV (mVar 5)) (mV (mC (.int 0)))) (mCons (mOp2 ixD (mV (mVar 2)) (mV (mC (.int 0)))) mNil))))) (mV (mTup (mCons (mC (.str "name")) (mCons (mOp2 ixD (mV (mVar 5)) (mV (mC (.int 0)))) mNil)))))) (mRet (mC (.bl false))) mNx)
  (mIfS (mTest (mOp2 neD (mV (mCallF gd0 3 1 3 g__law_told_by (mCons (mVar 7) (mCons (mOp2 ixD (mV (mVar 2)) (mV (mC (.int 0)))) (mCons (mOp2 ixD (mV (mVar 5)) (mV (mC (.int 0)))) mNil))))) (mV (mTup (mCons (mC (.str "name")) (mCons (mOp2 ixD (mV (mVar 5)) (mV (mC (.int 0)))) mNil)))))) (mRet (mC (.bl false))) mNx))
theorem word_ok {x0 z : Str} {l : List D} {w : Str} {xs' : List Str} (hx : xs = x0 :: xs') (hz : z ∉ xs) (hw : ∀ a b c : Str, odd2 xs a b = some c → g__law_told_by [KO xs E n ds us, .str w, .str a, .str b] = .ok (.tup [.str "name", .str c]) [some (KO xs E n ds us)]) :
    mWord (Lw75 sc d xs (SK xs E n ds us) tu (some (.lst (.str z :: l))) na (some (.str w)) ot) = .ok .nx (Lw75 sc d xs (SK xs E n ds us) tu (some (.lst (.str z :: l))) na (some (.str w)) ot) := by
  have hx0 : x0 ∈ xs := by rw [hx]; exact List.mem_cons_self
  have o1 : odd2 xs z x0 = some z := by unfold odd2; rw [if_neg hz]
  have o2 : odd2 xs x0 z = some z := by unfold odd2; rw [if_pos hx0, if_neg hz]
  have nz : neD (.tup [.str "name", .str z]) (.tup [.str "name", .str z]) = some (.bl false) := by
    have e := eq_tag (w := "name") (d := .str z) (pln_str z) (by rw [dep_str]; decide)
    unfold eqD at e
    unfold neD
    cases q : eqB (D.tup [.str "name", .str z]) (D.tup [.str "name", .str z]) with
    | none => rw [q] at e; cases e
    | some b => rw [q] at e; cases e; rfl
  obtain ⟨ρ, hρ⟩ : ∃ ρ, ρ = Lw75 sc d xs (SK xs E n ds us) tu (some (.lst (.str z :: l))) na (some (.str w)) ot := ⟨_, rfl⟩
  have z5 : mOp2 ixD (mV (mVar 5)) (mV (mC (.int 0))) (Lw75 sc d xs (SK xs E n ds us) tu (some (.lst (.str z :: l))) na (some (.str w)) ot) = .ok (.str z) (Lw75 sc d xs (SK xs E n ds us) tu (some (.lst (.str z :: l))) na (some (.str w)) ot) := op2V (ma := mVar 5) rfl rfl (show ixD (.lst (.str z :: l)) (.int 0) = some (.str z) from atI_nat (j := 0) rfl)
  have z5' : mOp2 ixD (mV (mVar 5)) (mV (mC (.int 0))) ((Lw75 sc d xs (SK xs E n ds us) tu (some (.lst (.str z :: l))) na (some (.str w)) ot).set 3 none) = .ok (.str z) ((Lw75 sc d xs (SK xs E n ds us) tu (some (.lst (.str z :: l))) na (some (.str w)) ot).set 3 none) := op2V (ma := mVar 5) rfl rfl (show ixD (.lst (.str z :: l)) (.int 0) = some (.str z) from atI_nat (j := 0) rfl)
  have ix2 : ixD (.lst (xs.map .str)) (.int 0) = some (.str x0) := by rw [hx]; exact atI_nat (j := 0) rfl
  have z2' : mOp2 ixD (mV (mVar 2)) (mV (mC (.int 0))) ((Lw75 sc d xs (SK xs E n ds us) tu (some (.lst (.str z :: l))) na (some (.str w)) ot).set 3 none) = .ok (.str x0) ((Lw75 sc d xs (SK xs E n ds us) tu (some (.lst (.str z :: l))) na (some (.str w)) ot).set 3 none) := op2V (ma := mVar 2) rfl rfl ix2
  have nmv := tup2_val (m := mC (.str "name")) rfl z5
  have c1 := callFV (gd := gd0) (i := 3) (j := 1) (n := 3) (g := g__law_told_by) (ma := mCons (mVar 7) (mCons (mOp2 ixD (mV (mVar 5)) (mV (mC (.int 0)))) (mCons (mOp2 ixD (mV (mVar 2)) (mV (mC (.int 0)))) mNil))) (ρ := Lw75 sc d xs (SK xs E n ds us) tu (some (.lst (.str z :: l))) na (some (.str w)) ot) rfl rfl rfl (consV (m := mVar 7) rfl (consV z5' (consV z2' rfl))) rfl (hw z x0 z o1)
  have c2 := callFV (gd := gd0) (i := 3) (j := 1) (n := 3) (g := g__law_told_by) (ma := mCons (mVar 7) (mCons (mOp2 ixD (mV (mVar 2)) (mV (mC (.int 0)))) (mCons (mOp2 ixD (mV (mVar 5)) (mV (mC (.int 0)))) mNil))) (ρ := Lw75 sc d xs (SK xs E n ds us) tu (some (.lst (.str z :: l))) na (some (.str w)) ot) rfl rfl rfl (consV (m := mVar 7) rfl (consV z2' (consV z5' rfl))) rfl (hw x0 z z o2)
  exact seqV (ifV_F (testV (op2V (f := neD) c1 nmv nz)) rfl) (ifV_F (testV (op2V (f := neD) c2 nmv nz)) rfl)
end
theorem law_holds (ms : List Int) (hl : ms.length ≤ 63) : ∃ ρ, g_law [.scr ms] = .ok (.bl true) ρ := by
  obtain ⟨d0, ρ0, e0, fd0⟩ := feed_ok ms hl
  obtain ⟨r, d1, e1, fd1, r0, r1⟩ := draw_ok (n := 8) fd0 (by decide) (by decide)
  obtain ⟨v, d2, e2, fd2, xs, rfl, lx, gx⟩ := names_ok (m := 1 + r) (by omega) (by omega) d1 fd1
  have lx1 : 1 ≤ xs.length := by omega
  have lx2 : xs.length ≤ 10 := by omega
  have k0 : KS 0 xs [] 0 [] := ⟨gx, lx2, fun e m => (by cases m), List.nodup_nil, fun e m => (by cases m), Nat.zero_le _, Int.le_refl _, Int.le_refl _, Nat.le_refl _, fun a q => (by
    have := q.snd
    rw [show ordE ([] : EN) = [] by simp [ordE, srtE]] at this
    simp at this)⟩
  obtain ⟨r2, d3, e3, fd3, a3, b3⟩ := draw_ok (n := 21) fd2 (by decide) (by decide)
  obtain ⟨d4, E, n, ds, us, tu, so, na, e4, fd4, k4⟩ := turns_ok (xs := xs) (sc := .scr ms) (us := []) (tu := none) (so := none) (na := none) (wo := none) (ot := none) (l := rangeD 0 r2.toNat) k0 (by rw [len_range]; omega) lx1 fd3
  obtain ⟨na2, e5⟩ := ask_all (us := us) (sc := .scr ms) (d := d4) (tu := tu) (so := so) (na := na) (wo := none) (ot := none) k4
  obtain ⟨x0, xs', hx⟩ : ∃ x0 xs', xs = x0 :: xs' := by
    cases xs with
    | nil => simp at lx1
    | cons x0 xs' => exact ⟨x0, xs', rfl⟩
  obtain ⟨zs, hzs⟩ : ∃ zs, zs = (([("q" : Str), "yy"].filter fun x => !decide (x ∈ xs)).map D.str) := ⟨_, rfl⟩
  have lk := call1V (i := 3) (n := 0) (g := g__law_looked) (ma := mNil) (ρ := Lw75 (.scr ms) d4 xs (SK xs E n ds us) tu (some (.lst (.str "zzz" :: zs))) na2 (some (.str "knows")) none) rfl rfl rfl rfl (looked_ok (us := us) k4 (by decide))
  have v1 := op2V (f := addD) (ma := mC (.int 1)) (ρ := [some (.scr ms), some d0, none, none, none, none, none, none, none]) rfl (drawV (m := mC (.int 8)) (ρ := [some (.scr ms), some d0, none, none, none, none, none, none, none]) rfl e1 rfl) (d_add _ _)
  have s2 := setV' (i := 2) (call1V (i := 1) (n := 1) (g := g__law_names) (ρ := [some (.scr ms), some d0, none, none, none, none, none, none, none]) rfl (consV (t := mNil) v1 rfl) rfl rfl e2)
  have tp : ∀ ρ : DEnv, mVar 2 ρ = .ok (.lst (xs.map .str)) ρ → mOp1 tupleD (mV (mVar 2)) ρ = .ok (NT xs) ρ := fun ρ h => op1V h rfl
  have s3 := setV' (i := 3) (callN2V (g := g__law_side) (tp [some (.scr ms), some d2, some (.lst (xs.map .str)), none, none, none, none, none, none] rfl) (newV (c := "Keeper") (n := 1) (consV (t := mNil) (tp [some (.scr ms), some d2, some (.lst (xs.map .str)), none, none, none, none, none, none] rfl) rfl) rfl (init_ok gx lx2)) side_ok)
  change _ = R.ok _ (Lw75 (.scr ms) d2 xs (SK xs [] 0 [] []) none none none none none) at s3
  have s4 : mLoop (kName 4) mTurn (mR1 (mCons (mCall1 1 1 g__law_draw (mCons (mC (.int 21)) mNil)) mNil)) (Lw75 (.scr ms) d2 xs (SK xs [] 0 [] []) none none none none none) = .ok .nx (Lw75 (.scr ms) d4 xs (SK xs E n ds us) tu so na none none) := by
    have dv := drawV (m := mC (.int 21)) (ρ := Lw75 (.scr ms) d2 xs (SK xs [] 0 [] []) none none none none none) rfl e3 rfl
    refine loopV (ds := rangeD 0 r2.toNat) (ρ1 := Lw75 (.scr ms) d3 xs (SK xs [] 0 [] []) none none none none none) ?_ e4
    rw [e_R1, consV (t := mNil) dv rfl, R.bind_ok]
    show mRng1 [.int r2] _ = _
    rw [e_rng1, if_pos (by omega)]; rfl
  have s5 : mSet 5 (mLc (mTs (mTup (mCons (mC (.str "zzz")) (mCons (mC (.str "q")) (mCons (mC (.str "yy")) mNil))))) (kName 6) (mTest (mOp2 ninD (mV (mVar 6)) (mV (mVar 2)))) (mVar 6) [6]) (Lw75 (.scr ms) d4 xs (SK xs E n ds us) tu so na2 none none) = .ok .nx (Lw75 (.scr ms) d4 xs (SK xs E n ds us) tu (some (.lst (.str "zzz" :: zs))) na2 none none) := by
    have lc := lc_var (ma := mTs (mTup (mCons (mC (.str "zzz")) (mCons (mC (.str "q")) (mCons (mC (.str "yy")) mNil))))) (test := mTest (mOp2 ninD (mV (mVar 6)) (mV (mVar 2)))) (elt := mVar 6) (i := 6) (ρ := Lw75 (.scr ms) d4 xs (SK xs E n ds us) tu so na2 none none) (R := [("zzz" : Str), "q", "yy"]) .str (fun x => !decide (x ∈ xs)) .str rfl (by decide) (by show 6 < 9; decide) (fun y _ => test_val (op2_val (f := ninD) (ma := mVar 6) (mb := mVar 2) rfl rfl (nin_strs y xs))) (fun _ _ _ => rfl)
    have ef : List.filter (fun x => !decide (x ∈ xs)) [("zzz" : Str), "q", "yy"] = ("zzz" : Str) :: List.filter (fun x => !decide (x ∈ xs)) [("q" : Str), "yy"] := List.filter_cons_of_pos (by rw [decide_eq_false gx.zz]; rfl)
    rw [ef, List.map_cons, ← hzs] at lc
    exact setV' lc
  have wd := fun (w : Str) hw => word_ok (us := us) (n := n) (ds := ds) (E := E) (sc := .scr ms) (d := d4) (tu := tu) (na := na2) (ot := none) (z := "zzz") (l := zs) (w := w) hx gx.zz hw
  have s6 : mLoop (kName 7) mWord (mTs (mTup (mCons (mC (.str "lead")) (mCons (mC (.str "knows")) mNil)))) (Lw75 (.scr ms) d4 xs (SK xs E n ds us) tu (some (.lst (.str "zzz" :: zs))) na2 none none) = .ok .nx (Lw75 (.scr ms) d4 xs (SK xs E n ds us) tu (some (.lst (.str "zzz" :: zs))) na2 (some (.str "knows")) none) := by
    refine loopV (ds := [.str "lead", .str "knows"]) rfl (forN rfl (wd "lead" fun a b c o => ?_) (forN rfl (wd "knows" fun a b c o => ?_) rfl))
    · exact told_twoX (g := gX_Keeper__lead) mb_lead (lead_odd o) (show KX.contains "NoName" = true by decide) (ref_name (.str c))
    · exact told_twoX (g := gX_Keeper__knows) mb_knows (knows_odd o) (show KX.contains "NoName" = true by decide) (ref_name (.str c))
  have main : m_law [some (.scr ms), none, none, none, none, none, none, none, none] = .ok (.rt (.bl true)) (Lw75 (.scr ms) d4 xs (SK xs E n ds us) tu (some (.lst (.str "zzz" :: zs))) na2 (some (.str "knows")) none) := by
    unfold m_law
    refine seqV (setV' (i := 1) (call0_1 (m := mVar 0) rfl e0)) ?_
    exact seqV s2 (seqV s3 (seqV s4 (seqV e5 (seqV s5 (seqV s6 (retV lk))))))
  exact ⟨[], run_rt (N := 9) (fx := 0) (m := m_law) main rfl⟩

theorem law_true : ∀ ms : List Int, ms.length ≤ 63 → ∃ ρ, g_law [.scr ms] = .ok (.bl true) ρ := law_holds
end VL
namespace VL
open PySem PySem.Spec L2
set_option maxHeartbeats 4000000 in
theorem all_mk {w : World} {K : PySem.W.Frag} {h : Heap} {mg : Str → Option Value} {fa f0 f1 f2 f3 f4 f5 f6 f7 f8 f9 f10 f11 f12 f13 f14 f15 f16 f17 f18 f19 f20 f21 f22 f23 f24 f25 f26 f27 f28 f29 f30 f31 f32 : Addr} {od0 an0 od1 an1 od2 an2 od3 an3 od4 an4 od5 an5 od6 an6 od7 an7 od8 an8 od9 an9 od10 an10 od11 an11 od12 an12 od13 an13 od14 an14 od15 an15 od16 an16 od17 an17 od18 an18 od19 an19 od20 an20 od21 an21 od22 an22 od23 an23 od24 an24 od25 an25 od26 an26 od27 an27 od28 an28 od29 an29 od30 an30 od31 an31 od32 an32 : Option Addr} {sl0 sl1 sl2 sl3 sl4 sl5 sl6 sl7 sl8 sl9 sl10 sl11 sl12 sl13 sl14 sl15 sl16 sl17 sl18 sl19 sl20 sl21 sl22 sl23 sl24 sl25 sl26 sl27 sl28 sl29 sl30 sl31 sl32 : Array (Option Value)} {oc0 kV0 dc0 pm0 cd0 ct0 oc1 kV1 dc1 pm1 cd1 ct1 oc2 kV2 dc2 pm2 cd2 ct2 oc3 kV3 dc3 pm3 cd3 ct3 oc4 kV4 dc4 pm4 cd4 ct4 oc5 kV5 dc5 pm5 cd5 ct5 oc6 kV6 dc6 pm6 cd6 ct6 oc7 kV7 dc7 pm7 cd7 ct7 oc8 kV8 dc8 pm8 cd8 ct8 oc9 kV9 dc9 pm9 cd9 ct9 oc10 kV10 dc10 pm10 cd10 ct10 oc11 kV11 dc11 pm11 cd11 ct11 oc12 kV12 dc12 pm12 cd12 ct12 oc13 kV13 dc13 pm13 cd13 ct13 oc14 kV14 dc14 pm14 cd14 ct14 oc15 kV15 dc15 pm15 cd15 ct15 oc16 kV16 dc16 pm16 cd16 ct16 oc17 kV17 dc17 pm17 cd17 ct17 oc18 kV18 dc18 pm18 cd18 ct18 oc19 kV19 dc19 pm19 cd19 ct19 oc20 kV20 dc20 pm20 cd20 ct20 oc21 kV21 dc21 pm21 cd21 ct21 oc22 kV22 dc22 pm22 cd22 ct22 oc23 kV23 dc23 pm23 cd23 ct23 oc24 kV24 dc24 pm24 cd24 ct24 oc25 kV25 dc25 pm25 cd25 ct25 oc26 kV26 dc26 pm26 cd26 ct26 oc27 kV27 dc27 pm27 cd27 ct27 oc28 kV28 dc28 pm28 cd28 ct28 oc29 kV29 dc29 pm29 cd29 ct29 oc30 kV30 dc30 pm30 cd30 ct30 oc31 kV31 dc31 pm31 cd31 ct31 oc32 kV32 dc32 pm32 cd32 ct32 : Value} {tk_LETTERS tk_LONGEST tk_MOST_NAMES tk_MOST_SAYINGS_halves tk_MOST_SAYINGS_keeping : Tok} (X : K.In h) (G : h.Ns mainGlobals mg) (hfa : mg "law" = some (.ref fa))
    (a0 : PySem.W.nsIn K mainGlobals "is_name" = some (some (.ref f0))) (l0 : K.lookup f0 = some ⟨oc0, od0, .func (PySem.W.fnOf "is_name" "is_name" (defArgs s_is_name) (defBody s_is_name) (defScope s_is_name) .none kV0 dc0 pm0 an0 cd0 ct0), sl0⟩)
    (e0 : PySem.W.codeIn K cd0 "is_name" = true) (k0 : PySem.W.keepIn K (.ref f0) = true)
    (a1 : PySem.W.nsIn K mainGlobals "are_names" = some (some (.ref f1))) (l1 : K.lookup f1 = some ⟨oc1, od1, .func (PySem.W.fnOf "are_names" "are_names" (defArgs s_are_names) (defBody s_are_names) (defScope s_are_names) .none kV1 dc1 pm1 an1 cd1 ct1), sl1⟩)
    (e1 : PySem.W.codeIn K cd1 "are_names" = true) (k1 : PySem.W.keepIn K (.ref f1) = true)
    (a2 : PySem.W.nsIn K mainGlobals "is_saying" = some (some (.ref f2))) (l2 : K.lookup f2 = some ⟨oc2, od2, .func (PySem.W.fnOf "is_saying" "is_saying" (defArgs s_is_saying) (defBody s_is_saying) (defScope s_is_saying) .none kV2 dc2 pm2 an2 cd2 ct2), sl2⟩)
    (e2 : PySem.W.codeIn K cd2 "is_saying" = true) (k2 : PySem.W.keepIn K (.ref f2) = true)
    (a3 : PySem.W.nsIn K mainGlobals "has_form" = some (some (.ref f3))) (l3 : K.lookup f3 = some ⟨oc3, od3, .func (PySem.W.fnOf "has_form" "has_form" (defArgs s_has_form) (defBody s_has_form) (defScope s_has_form) .none kV3 dc3 pm3 an3 cd3 ct3), sl3⟩)
    (e3 : PySem.W.codeIn K cd3 "has_form" = true) (k3 : PySem.W.keepIn K (.ref f3) = true)
    (a4 : PySem.W.nsIn K mainGlobals "way_by" = some (some (.ref f4))) (l4 : K.lookup f4 = some ⟨oc4, od4, .func (PySem.W.fnOf "way_by" "way_by" (defArgs s_way_by) (defBody s_way_by) (defScope s_way_by) .none kV4 dc4 pm4 an4 cd4 ct4), sl4⟩)
    (e4 : PySem.W.codeIn K cd4 "way_by" = true) (k4 : PySem.W.keepIn K (.ref f4) = true)
    (a5 : PySem.W.nsIn K mainGlobals "right_half" = some (some (.ref f5))) (l5 : K.lookup f5 = some ⟨oc5, od5, .func (PySem.W.fnOf "right_half" "right_half" (defArgs s_right_half) (defBody s_right_half) (defScope s_right_half) .none kV5 dc5 pm5 an5 cd5 ct5), sl5⟩)
    (e5 : PySem.W.codeIn K cd5 "right_half" = true) (k5 : PySem.W.keepIn K (.ref f5) = true)
    (a6 : PySem.W.nsIn K mainGlobals "_law_feed" = some (some (.ref f6))) (l6 : K.lookup f6 = some ⟨oc6, od6, .func (PySem.W.fnOf "_law_feed" "_law_feed" (defArgs s__law_feed) (defBody s__law_feed) (defScope s__law_feed) .none kV6 dc6 pm6 an6 cd6 ct6), sl6⟩)
    (e6 : PySem.W.codeIn K cd6 "_law_feed" = true) (k6 : PySem.W.keepIn K (.ref f6) = true)
    (a7 : PySem.W.nsIn K mainGlobals "_law_draw" = some (some (.ref f7))) (l7 : K.lookup f7 = some ⟨oc7, od7, .func (PySem.W.fnOf "_law_draw" "_law_draw" (defArgs s__law_draw) (defBody s__law_draw) (defScope s__law_draw) .none kV7 dc7 pm7 an7 cd7 ct7), sl7⟩)
    (e7 : PySem.W.codeIn K cd7 "_law_draw" = true) (k7 : PySem.W.keepIn K (.ref f7) = true)
    (a8 : PySem.W.nsIn K mainGlobals "_law_names" = some (some (.ref f8))) (l8 : K.lookup f8 = some ⟨oc8, od8, .func (PySem.W.fnOf "_law_names" "_law_names" (defArgs s__law_names) (defBody s__law_names) (defScope s__law_names) .none kV8 dc8 pm8 an8 cd8 ct8), sl8⟩)
    (e8 : PySem.W.codeIn K cd8 "_law_names" = true) (k8 : PySem.W.keepIn K (.ref f8) = true)
    (a9 : PySem.W.nsIn K mainGlobals "_law_behind" = some (some (.ref f9))) (l9 : K.lookup f9 = some ⟨oc9, od9, .func (PySem.W.fnOf "_law_behind" "_law_behind" (defArgs s__law_behind) (defBody s__law_behind) (defScope s__law_behind) .none kV9 dc9 pm9 an9 cd9 ct9), sl9⟩)
    (e9 : PySem.W.codeIn K cd9 "_law_behind" = true) (k9 : PySem.W.keepIn K (.ref f9) = true)
    (a10 : PySem.W.nsIn K mainGlobals "_law_refusal" = some (some (.ref f10))) (l10 : K.lookup f10 = some ⟨oc10, od10, .func (PySem.W.fnOf "_law_refusal" "_law_refusal" (defArgs s__law_refusal) (defBody s__law_refusal) (defScope s__law_refusal) .none kV10 dc10 pm10 an10 cd10 ct10), sl10⟩)
    (e10 : PySem.W.codeIn K cd10 "_law_refusal" = true) (k10 : PySem.W.keepIn K (.ref f10) = true)
    (l11 : K.lookup f11 = some ⟨oc11, od11, .func (PySem.W.fnOf "ask_names" "Keeper.ask_names" (defArgs s_Keeper__ask_names) (defBody s_Keeper__ask_names) (defScope s_Keeper__ask_names) .none kV11 dc11 pm11 an11 cd11 ct11), sl11⟩)
    (e11 : PySem.W.codeIn K cd11 "Keeper.ask_names" = true) (k11 : PySem.W.keepIn K (.ref f11) = true)
    (l12 : K.lookup f12 = some ⟨oc12, od12, .func (PySem.W.fnOf "numbers" "Keeper.numbers" (defArgs s_Keeper__numbers) (defBody s_Keeper__numbers) (defScope s_Keeper__numbers) .none kV12 dc12 pm12 an12 cd12 ct12), sl12⟩)
    (e12 : PySem.W.codeIn K cd12 "Keeper.numbers" = true) (k12 : PySem.W.keepIn K (.ref f12) = true)
    (l13 : K.lookup f13 = some ⟨oc13, od13, .func (PySem.W.fnOf "lead" "Keeper.lead" (defArgs s_Keeper__lead) (defBody s_Keeper__lead) (defScope s_Keeper__lead) .none kV13 dc13 pm13 an13 cd13 ct13), sl13⟩)
    (e13 : PySem.W.codeIn K cd13 "Keeper.lead" = true) (k13 : PySem.W.keepIn K (.ref f13) = true)
    (l14 : K.lookup f14 = some ⟨oc14, od14, .func (PySem.W.fnOf "lay" "Keeper.lay" (defArgs s_Keeper__lay) (defBody s_Keeper__lay) (defScope s_Keeper__lay) .none kV14 dc14 pm14 an14 cd14 ct14), sl14⟩)
    (e14 : PySem.W.codeIn K cd14 "Keeper.lay" = true) (k14 : PySem.W.keepIn K (.ref f14) = true)
    (l15 : K.lookup f15 = some ⟨oc15, od15, .func (PySem.W.fnOf "do" "Keeper.do" (defArgs s_Keeper__do) (defBody s_Keeper__do) (defScope s_Keeper__do) .none kV15 dc15 pm15 an15 cd15 ct15), sl15⟩)
    (e15 : PySem.W.codeIn K cd15 "Keeper.do" = true) (k15 : PySem.W.keepIn K (.ref f15) = true)
    (l16 : K.lookup f16 = some ⟨oc16, od16, .func (PySem.W.fnOf "say" "Keeper.say" (defArgs s_Keeper__say) (defBody s_Keeper__say) (defScope s_Keeper__say) .none kV16 dc16 pm16 an16 cd16 ct16), sl16⟩)
    (e16 : PySem.W.codeIn K cd16 "Keeper.say" = true) (k16 : PySem.W.keepIn K (.ref f16) = true)
    (l17 : K.lookup f17 = some ⟨oc17, od17, .func (PySem.W.fnOf "saying" "Keeper.saying" (defArgs s_Keeper__saying) (defBody s_Keeper__saying) (defScope s_Keeper__saying) .none kV17 dc17 pm17 an17 cd17 ct17), sl17⟩)
    (e17 : PySem.W.codeIn K cd17 "Keeper.saying" = true) (k17 : PySem.W.keepIn K (.ref f17) = true)
    (l18 : K.lookup f18 = some ⟨oc18, od18, .func (PySem.W.fnOf "take" "Keeper.take" (defArgs s_Keeper__take) (defBody s_Keeper__take) (defScope s_Keeper__take) .none kV18 dc18 pm18 an18 cd18 ct18), sl18⟩)
    (e18 : PySem.W.codeIn K cd18 "Keeper.take" = true) (k18 : PySem.W.keepIn K (.ref f18) = true)
    (l19 : K.lookup f19 = some ⟨oc19, od19, .func (PySem.W.fnOf "lift" "Keeper.lift" (defArgs s_Keeper__lift) (defBody s_Keeper__lift) (defScope s_Keeper__lift) .none kV19 dc19 pm19 an19 cd19 ct19), sl19⟩)
    (e19 : PySem.W.codeIn K cd19 "Keeper.lift" = true) (k19 : PySem.W.keepIn K (.ref f19) = true)
    (l20 : K.lookup f20 = some ⟨oc20, od20, .func (PySem.W.fnOf "undo" "Keeper.undo" (defArgs s_Keeper__undo) (defBody s_Keeper__undo) (defScope s_Keeper__undo) .none kV20 dc20 pm20 an20 cd20 ct20), sl20⟩)
    (e20 : PySem.W.codeIn K cd20 "Keeper.undo" = true) (k20 : PySem.W.keepIn K (.ref f20) = true)
    (l21 : K.lookup f21 = some ⟨oc21, od21, .func (PySem.W.fnOf "redo" "Keeper.redo" (defArgs s_Keeper__redo) (defBody s_Keeper__redo) (defScope s_Keeper__redo) .none kV21 dc21 pm21 an21 cd21 ct21), sl21⟩)
    (e21 : PySem.W.codeIn K cd21 "Keeper.redo" = true) (k21 : PySem.W.keepIn K (.ref f21) = true)
    (l22 : K.lookup f22 = some ⟨oc22, od22, .func (PySem.W.fnOf "knows" "Keeper.knows" (defArgs s_Keeper__knows) (defBody s_Keeper__knows) (defScope s_Keeper__knows) .none kV22 dc22 pm22 an22 cd22 ct22), sl22⟩)
    (e22 : PySem.W.codeIn K cd22 "Keeper.knows" = true) (k22 : PySem.W.keepIn K (.ref f22) = true)
    (a23 : PySem.W.nsIn K mainGlobals "_law_told_by" = some (some (.ref f23))) (l23 : K.lookup f23 = some ⟨oc23, od23, .func (PySem.W.fnOf "_law_told_by" "_law_told_by" (defArgs s__law_told_by) (defBody s__law_told_by) (defScope s__law_told_by) .none kV23 dc23 pm23 an23 cd23 ct23), sl23⟩)
    (e23 : PySem.W.codeIn K cd23 "_law_told_by" = true) (k23 : PySem.W.keepIn K (.ref f23) = true)
    (a24 : PySem.W.nsIn K mainGlobals "_law_side" = some (some (.ref f24))) (l24 : K.lookup f24 = some ⟨oc24, od24, .func (PySem.W.fnOf "_law_side" "_law_side" (defArgs s__law_side) (defBody s__law_side) (defScope s__law_side) .none kV24 dc24 pm24 an24 cd24 ct24), sl24⟩)
    (e24 : PySem.W.codeIn K cd24 "_law_side" = true) (k24 : PySem.W.keepIn K (.ref f24) = true)
    (a25 : PySem.W.nsIn K mainGlobals "_law_half_of" = some (some (.ref f25))) (l25 : K.lookup f25 = some ⟨oc25, od25, .func (PySem.W.fnOf "_law_half_of" "_law_half_of" (defArgs s__law_half_of) (defBody s__law_half_of) (defScope s__law_half_of) .none kV25 dc25 pm25 an25 cd25 ct25), sl25⟩)
    (e25 : PySem.W.codeIn K cd25 "_law_half_of" = true) (k25 : PySem.W.keepIn K (.ref f25) = true)
    (a26 : PySem.W.nsIn K mainGlobals "_law_is_way" = some (some (.ref f26))) (l26 : K.lookup f26 = some ⟨oc26, od26, .func (PySem.W.fnOf "_law_is_way" "_law_is_way" (defArgs s__law_is_way) (defBody s__law_is_way) (defScope s__law_is_way) .none kV26 dc26 pm26 an26 cd26 ct26), sl26⟩)
    (e26 : PySem.W.codeIn K cd26 "_law_is_way" = true) (k26 : PySem.W.keepIn K (.ref f26) = true)
    (a27 : PySem.W.nsIn K mainGlobals "_law_say" = some (some (.ref f27))) (l27 : K.lookup f27 = some ⟨oc27, od27, .func (PySem.W.fnOf "_law_say" "_law_say" (defArgs s__law_say) (defBody s__law_say) (defScope s__law_say) .none kV27 dc27 pm27 an27 cd27 ct27), sl27⟩)
    (e27 : PySem.W.codeIn K cd27 "_law_say" = true) (k27 : PySem.W.keepIn K (.ref f27) = true)
    (l28 : K.lookup f28 = some ⟨oc28, od28, .func (PySem.W.fnOf "half" "Keeper.half" (defArgs s_Keeper__half) (defBody s_Keeper__half) (defScope s_Keeper__half) .none kV28 dc28 pm28 an28 cd28 ct28), sl28⟩)
    (e28 : PySem.W.codeIn K cd28 "Keeper.half" = true) (k28 : PySem.W.keepIn K (.ref f28) = true)
    (a29 : PySem.W.nsIn K mainGlobals "_law_looked" = some (some (.ref f29))) (l29 : K.lookup f29 = some ⟨oc29, od29, .func (PySem.W.fnOf "_law_looked" "_law_looked" (defArgs s__law_looked) (defBody s__law_looked) (defScope s__law_looked) .none kV29 dc29 pm29 an29 cd29 ct29), sl29⟩)
    (e29 : PySem.W.codeIn K cd29 "_law_looked" = true) (k29 : PySem.W.keepIn K (.ref f29) = true)
    (a30 : PySem.W.nsIn K mainGlobals "_law_asked" = some (some (.ref f30))) (l30 : K.lookup f30 = some ⟨oc30, od30, .func (PySem.W.fnOf "_law_asked" "_law_asked" (defArgs s__law_asked) (defBody s__law_asked) (defScope s__law_asked) .none kV30 dc30 pm30 an30 cd30 ct30), sl30⟩)
    (e30 : PySem.W.codeIn K cd30 "_law_asked" = true) (k30 : PySem.W.keepIn K (.ref f30) = true)
    (l31 : K.lookup f31 = some ⟨oc31, od31, .func (PySem.W.fnOf "__init__" "Keeper.__init__" (defArgs s_Keeper____init__) (defBody s_Keeper____init__) (defScope s_Keeper____init__) .none kV31 dc31 pm31 an31 cd31 ct31), sl31⟩)
    (e31 : PySem.W.codeIn K cd31 "Keeper.__init__" = true) (k31 : PySem.W.keepIn K (.ref f31) = true)
    (a32 : PySem.W.nsIn K mainGlobals "law" = some (some (.ref f32))) (l32 : K.lookup f32 = some ⟨oc32, od32, .func (PySem.W.fnOf "law" "law" (defArgs s_law) (defBody s_law) (defScope s_law) .none kV32 dc32 pm32 an32 cd32 ct32), sl32⟩)
    (e32 : PySem.W.codeIn K cd32 "law" = true) (k32 : PySem.W.keepIn K (.ref f32) = true)
    {A_Keeper : Addr}
    (kg_Keeper : PySem.W.nsIn K mainGlobals "Keeper" = some (some (.ref A_Keeper)))
    (kp0_Keeper : PySem.W.plainGet K A_Keeper Str.empty = true)
    (kp1_Keeper : PySem.W.hasDictIn K A_Keeper = true)
    (kp2_Keeper : PySem.W.plainOver K A_Keeper = true)
    (kp3_Keeper : PySem.W.findIn K (.ref A_Keeper) "__setattr__" = some (some (.builtin "object.__setattr__")))
    (km0_Keeper : PySem.W.makesIn K A_Keeper = true)
    (km3_Keeper : PySem.W.keepIn K (.ref A_Keeper) = true)
    (kn_Keeper_names_told : PySem.W.findIn K (.ref A_Keeper) "names_told" = some none)
    (kn_Keeper_kept : PySem.W.findIn K (.ref A_Keeper) "kept" = some none)
    (kn_Keeper_next_number : PySem.W.findIn K (.ref A_Keeper) "next_number" = some none)
    (kn_Keeper_deeds : PySem.W.findIn K (.ref A_Keeper) "deeds" = some none)
    (kn_Keeper_undone : PySem.W.findIn K (.ref A_Keeper) "undone" = some none)
    (kt_Keeper____init__ : PySem.W.findIn K (.ref A_Keeper) "__init__" = some (some (.ref f31)))
    (ku_Keeper____init__ : PySem.W.isFn K (.ref f31) = true)
    (kt_Keeper__ask_names : PySem.W.findIn K (.ref A_Keeper) "ask_names" = some (some (.ref f11)))
    (ku_Keeper__ask_names : PySem.W.isFn K (.ref f11) = true)
    (kt_Keeper__numbers : PySem.W.findIn K (.ref A_Keeper) "numbers" = some (some (.ref f12)))
    (ku_Keeper__numbers : PySem.W.isFn K (.ref f12) = true)
    (kt_Keeper__lead : PySem.W.findIn K (.ref A_Keeper) "lead" = some (some (.ref f13)))
    (ku_Keeper__lead : PySem.W.isFn K (.ref f13) = true)
    (kt_Keeper__lay : PySem.W.findIn K (.ref A_Keeper) "lay" = some (some (.ref f14)))
    (ku_Keeper__lay : PySem.W.isFn K (.ref f14) = true)
    (kt_Keeper__lift : PySem.W.findIn K (.ref A_Keeper) "lift" = some (some (.ref f19)))
    (ku_Keeper__lift : PySem.W.isFn K (.ref f19) = true)
    (kt_Keeper__do : PySem.W.findIn K (.ref A_Keeper) "do" = some (some (.ref f15)))
    (ku_Keeper__do : PySem.W.isFn K (.ref f15) = true)
    (kt_Keeper__say : PySem.W.findIn K (.ref A_Keeper) "say" = some (some (.ref f16)))
    (ku_Keeper__say : PySem.W.isFn K (.ref f16) = true)
    (kt_Keeper__saying : PySem.W.findIn K (.ref A_Keeper) "saying" = some (some (.ref f17)))
    (ku_Keeper__saying : PySem.W.isFn K (.ref f17) = true)
    (kt_Keeper__take : PySem.W.findIn K (.ref A_Keeper) "take" = some (some (.ref f18)))
    (ku_Keeper__take : PySem.W.isFn K (.ref f18) = true)
    (kt_Keeper__undo : PySem.W.findIn K (.ref A_Keeper) "undo" = some (some (.ref f20)))
    (ku_Keeper__undo : PySem.W.isFn K (.ref f20) = true)
    (kt_Keeper__redo : PySem.W.findIn K (.ref A_Keeper) "redo" = some (some (.ref f21)))
    (ku_Keeper__redo : PySem.W.isFn K (.ref f21) = true)
    (kt_Keeper__half : PySem.W.findIn K (.ref A_Keeper) "half" = some (some (.ref f28)))
    (ku_Keeper__half : PySem.W.isFn K (.ref f28) = true)
    (kt_Keeper__knows : PySem.W.findIn K (.ref A_Keeper) "knows" = some (some (.ref f22)))
    (ku_Keeper__knows : PySem.W.isFn K (.ref f22) = true)
    {A_Clash A_HalfError A_NoBound A_NoCover A_NoHalf A_NoJoin A_NoMore A_NoName A_NoOrder A_NoPaper A_NoPlace A_NoPlan A_NoSaying A_NoText A_TooMany : Addr}
    (ac_Clash : PySem.W.nsIn K mainGlobals "Clash" = some (some (.ref A_Clash)))
    (ac_HalfError : PySem.W.nsIn K mainGlobals "HalfError" = some (some (.ref A_HalfError)))
    (ac_NoBound : PySem.W.nsIn K mainGlobals "NoBound" = some (some (.ref A_NoBound)))
    (ac_NoCover : PySem.W.nsIn K mainGlobals "NoCover" = some (some (.ref A_NoCover)))
    (ac_NoHalf : PySem.W.nsIn K mainGlobals "NoHalf" = some (some (.ref A_NoHalf)))
    (ac_NoJoin : PySem.W.nsIn K mainGlobals "NoJoin" = some (some (.ref A_NoJoin)))
    (ac_NoMore : PySem.W.nsIn K mainGlobals "NoMore" = some (some (.ref A_NoMore)))
    (ac_NoName : PySem.W.nsIn K mainGlobals "NoName" = some (some (.ref A_NoName)))
    (ac_NoOrder : PySem.W.nsIn K mainGlobals "NoOrder" = some (some (.ref A_NoOrder)))
    (ac_NoPaper : PySem.W.nsIn K mainGlobals "NoPaper" = some (some (.ref A_NoPaper)))
    (ac_NoPlace : PySem.W.nsIn K mainGlobals "NoPlace" = some (some (.ref A_NoPlace)))
    (ac_NoPlan : PySem.W.nsIn K mainGlobals "NoPlan" = some (some (.ref A_NoPlan)))
    (ac_NoSaying : PySem.W.nsIn K mainGlobals "NoSaying" = some (some (.ref A_NoSaying)))
    (ac_NoText : PySem.W.nsIn K mainGlobals "NoText" = some (some (.ref A_NoText)))
    (ac_TooMany : PySem.W.nsIn K mainGlobals "TooMany" = some (some (.ref A_TooMany)))
    {nm_Clash q_Clash : Str} {N_Clash : Addr} {bs_Clash : List Value} {sn_Clash : List Str} {sub_Clash : List Value} {ab_Clash : Bool} {col_Clash : Option Bool} {dd_Clash : Option Addr} {m0_Clash m1_Clash m2_Clash m3_Clash m5_Clash : Option Value} {fI_Clash : Addr} {oi_Clash kVi_Clash dci_Clash pmi_Clash cdi_Clash cti_Clash : Value} {odi_Clash ani_Clash : Option Addr} {sli_Clash : Array (Option Value)}
    (xl_Clash : K.lookup A_Clash = some (excClassObj nm_Clash q_Clash A_Clash N_Clash bs_Clash [.ref A_HalfError, .type "ValueError", .type "Exception", .type "BaseException", .type "object"] true sn_Clash sub_Clash ab_Clash col_Clash dd_Clash m0_Clash m1_Clash m2_Clash m3_Clash m5_Clash "ValueError.__new__"))
    (sa_Clash : PySem.W.findIn K (.ref A_Clash) "__setattr__" = some (some (.builtin "object.__setattr__")))
    (i1_Clash : PySem.W.findIn K (.ref A_Clash) "__init__" = some (some (.ref fI_Clash)))
    (t1_Clash : PySem.W.typeIn K (.ref fI_Clash) = some (.type "function"))
    (l1_Clash : K.lookup fI_Clash = some ⟨oi_Clash, odi_Clash, .func (PySem.W.fnOf "__init__" "Clash.__init__" (defArgs s_init_Clash) (defBody s_init_Clash) (defScope s_init_Clash) .none kVi_Clash dci_Clash pmi_Clash ani_Clash cdi_Clash cti_Clash), sli_Clash⟩)
    (c1_Clash : PySem.W.codeIn K cdi_Clash "Clash.__init__" = true)
    (kk_Clash : PySem.W.keepIn K (.ref fI_Clash) = true)
    (nf_Clash_way : PySem.W.findIn K (.ref A_Clash) "way" = some none)
    (ga_Clash : PySem.W.findIn K (.ref A_Clash) "__getattribute__" = some (some (.builtin "BaseException.__getattribute__")))
    (gg_Clash : PySem.W.findIn K (.ref A_Clash) "__getattr__" = some none)
    (cl_Clash : PySem.W.findIn K (.ref A_Clash) "__class__" = some (some (.builtin "object.__class__")))
    (kp_Clash : PySem.W.keepIn K (.ref A_Clash) = true)
    (eb_Clash : PySem.W.subIn K (.ref A_Clash) (.type "BaseException") = some true)
    (ty_Clash : PySem.W.typeIn K (.ref A_Clash) = some (.type "type"))
    (hd_Clash : PySem.W.hasDictIn K A_Clash = true)
    (mo_Clash : PySem.W.mroIn K A_Clash (.type "object") = some true)
    (sh_Clash_HalfError : PySem.W.subIn K (.ref A_Clash) (.ref A_HalfError) = some true)
    {nm_NoName q_NoName : Str} {N_NoName : Addr} {bs_NoName : List Value} {sn_NoName : List Str} {sub_NoName : List Value} {ab_NoName : Bool} {col_NoName : Option Bool} {dd_NoName : Option Addr} {m0_NoName m1_NoName m2_NoName m3_NoName m5_NoName : Option Value} {fI_NoName : Addr} {oi_NoName kVi_NoName dci_NoName pmi_NoName cdi_NoName cti_NoName : Value} {odi_NoName ani_NoName : Option Addr} {sli_NoName : Array (Option Value)}
    (xl_NoName : K.lookup A_NoName = some (excClassObj nm_NoName q_NoName A_NoName N_NoName bs_NoName [.ref A_HalfError, .type "ValueError", .type "Exception", .type "BaseException", .type "object"] true sn_NoName sub_NoName ab_NoName col_NoName dd_NoName m0_NoName m1_NoName m2_NoName m3_NoName m5_NoName "ValueError.__new__"))
    (sa_NoName : PySem.W.findIn K (.ref A_NoName) "__setattr__" = some (some (.builtin "object.__setattr__")))
    (i1_NoName : PySem.W.findIn K (.ref A_NoName) "__init__" = some (some (.ref fI_NoName)))
    (t1_NoName : PySem.W.typeIn K (.ref fI_NoName) = some (.type "function"))
    (l1_NoName : K.lookup fI_NoName = some ⟨oi_NoName, odi_NoName, .func (PySem.W.fnOf "__init__" "NoName.__init__" (defArgs s_init_NoName) (defBody s_init_NoName) (defScope s_init_NoName) .none kVi_NoName dci_NoName pmi_NoName ani_NoName cdi_NoName cti_NoName), sli_NoName⟩)
    (c1_NoName : PySem.W.codeIn K cdi_NoName "NoName.__init__" = true)
    (kk_NoName : PySem.W.keepIn K (.ref fI_NoName) = true)
    (nf_NoName_name : PySem.W.findIn K (.ref A_NoName) "name" = some none)
    (ga_NoName : PySem.W.findIn K (.ref A_NoName) "__getattribute__" = some (some (.builtin "BaseException.__getattribute__")))
    (gg_NoName : PySem.W.findIn K (.ref A_NoName) "__getattr__" = some none)
    (cl_NoName : PySem.W.findIn K (.ref A_NoName) "__class__" = some (some (.builtin "object.__class__")))
    (kp_NoName : PySem.W.keepIn K (.ref A_NoName) = true)
    (eb_NoName : PySem.W.subIn K (.ref A_NoName) (.type "BaseException") = some true)
    (ty_NoName : PySem.W.typeIn K (.ref A_NoName) = some (.type "type"))
    (hd_NoName : PySem.W.hasDictIn K A_NoName = true)
    (mo_NoName : PySem.W.mroIn K A_NoName (.type "object") = some true)
    (sh_NoName_HalfError : PySem.W.subIn K (.ref A_NoName) (.ref A_HalfError) = some true)
    {nm_NoSaying q_NoSaying : Str} {N_NoSaying : Addr} {bs_NoSaying : List Value} {sn_NoSaying : List Str} {sub_NoSaying : List Value} {ab_NoSaying : Bool} {col_NoSaying : Option Bool} {dd_NoSaying : Option Addr} {m0_NoSaying m1_NoSaying m2_NoSaying m3_NoSaying m5_NoSaying : Option Value} {fI_NoSaying : Addr} {oi_NoSaying kVi_NoSaying dci_NoSaying pmi_NoSaying cdi_NoSaying cti_NoSaying : Value} {odi_NoSaying ani_NoSaying : Option Addr} {sli_NoSaying : Array (Option Value)}
    (xl_NoSaying : K.lookup A_NoSaying = some (excClassObj nm_NoSaying q_NoSaying A_NoSaying N_NoSaying bs_NoSaying [.ref A_HalfError, .type "ValueError", .type "Exception", .type "BaseException", .type "object"] true sn_NoSaying sub_NoSaying ab_NoSaying col_NoSaying dd_NoSaying m0_NoSaying m1_NoSaying m2_NoSaying m3_NoSaying m5_NoSaying "ValueError.__new__"))
    (sa_NoSaying : PySem.W.findIn K (.ref A_NoSaying) "__setattr__" = some (some (.builtin "object.__setattr__")))
    (i1_NoSaying : PySem.W.findIn K (.ref A_NoSaying) "__init__" = some (some (.ref fI_NoSaying)))
    (t1_NoSaying : PySem.W.typeIn K (.ref fI_NoSaying) = some (.type "function"))
    (l1_NoSaying : K.lookup fI_NoSaying = some ⟨oi_NoSaying, odi_NoSaying, .func (PySem.W.fnOf "__init__" "NoSaying.__init__" (defArgs s_init_NoSaying) (defBody s_init_NoSaying) (defScope s_init_NoSaying) .none kVi_NoSaying dci_NoSaying pmi_NoSaying ani_NoSaying cdi_NoSaying cti_NoSaying), sli_NoSaying⟩)
    (c1_NoSaying : PySem.W.codeIn K cdi_NoSaying "NoSaying.__init__" = true)
    (kk_NoSaying : PySem.W.keepIn K (.ref fI_NoSaying) = true)
    (nf_NoSaying_number : PySem.W.findIn K (.ref A_NoSaying) "number" = some none)
    (ga_NoSaying : PySem.W.findIn K (.ref A_NoSaying) "__getattribute__" = some (some (.builtin "BaseException.__getattribute__")))
    (gg_NoSaying : PySem.W.findIn K (.ref A_NoSaying) "__getattr__" = some none)
    (cl_NoSaying : PySem.W.findIn K (.ref A_NoSaying) "__class__" = some (some (.builtin "object.__class__")))
    (kp_NoSaying : PySem.W.keepIn K (.ref A_NoSaying) = true)
    (eb_NoSaying : PySem.W.subIn K (.ref A_NoSaying) (.type "BaseException") = some true)
    (ty_NoSaying : PySem.W.typeIn K (.ref A_NoSaying) = some (.type "type"))
    (hd_NoSaying : PySem.W.hasDictIn K A_NoSaying = true)
    (mo_NoSaying : PySem.W.mroIn K A_NoSaying (.type "object") = some true)
    (sh_NoSaying_HalfError : PySem.W.subIn K (.ref A_NoSaying) (.ref A_HalfError) = some true)
    {nm_TooMany q_TooMany : Str} {N_TooMany : Addr} {bs_TooMany : List Value} {sn_TooMany : List Str} {sub_TooMany : List Value} {ab_TooMany : Bool} {col_TooMany : Option Bool} {dd_TooMany : Option Addr} {m0_TooMany m1_TooMany m2_TooMany m3_TooMany m5_TooMany : Option Value} {fI_TooMany : Addr} {oi_TooMany kVi_TooMany dci_TooMany pmi_TooMany cdi_TooMany cti_TooMany : Value} {odi_TooMany ani_TooMany : Option Addr} {sli_TooMany : Array (Option Value)}
    (xl_TooMany : K.lookup A_TooMany = some (excClassObj nm_TooMany q_TooMany A_TooMany N_TooMany bs_TooMany [.ref A_HalfError, .type "ValueError", .type "Exception", .type "BaseException", .type "object"] true sn_TooMany sub_TooMany ab_TooMany col_TooMany dd_TooMany m0_TooMany m1_TooMany m2_TooMany m3_TooMany m5_TooMany "ValueError.__new__"))
    (sa_TooMany : PySem.W.findIn K (.ref A_TooMany) "__setattr__" = some (some (.builtin "object.__setattr__")))
    (i1_TooMany : PySem.W.findIn K (.ref A_TooMany) "__init__" = some (some (.ref fI_TooMany)))
    (t1_TooMany : PySem.W.typeIn K (.ref fI_TooMany) = some (.type "function"))
    (l1_TooMany : K.lookup fI_TooMany = some ⟨oi_TooMany, odi_TooMany, .func (PySem.W.fnOf "__init__" "TooMany.__init__" (defArgs s_init_TooMany) (defBody s_init_TooMany) (defScope s_init_TooMany) .none kVi_TooMany dci_TooMany pmi_TooMany ani_TooMany cdi_TooMany cti_TooMany), sli_TooMany⟩)
    (c1_TooMany : PySem.W.codeIn K cdi_TooMany "TooMany.__init__" = true)
    (kk_TooMany : PySem.W.keepIn K (.ref fI_TooMany) = true)
    (nf_TooMany_word : PySem.W.findIn K (.ref A_TooMany) "word" = some none)
    (ga_TooMany : PySem.W.findIn K (.ref A_TooMany) "__getattribute__" = some (some (.builtin "BaseException.__getattribute__")))
    (gg_TooMany : PySem.W.findIn K (.ref A_TooMany) "__getattr__" = some none)
    (cl_TooMany : PySem.W.findIn K (.ref A_TooMany) "__class__" = some (some (.builtin "object.__class__")))
    (kp_TooMany : PySem.W.keepIn K (.ref A_TooMany) = true)
    (eb_TooMany : PySem.W.subIn K (.ref A_TooMany) (.type "BaseException") = some true)
    (ty_TooMany : PySem.W.typeIn K (.ref A_TooMany) = some (.type "type"))
    (hd_TooMany : PySem.W.hasDictIn K A_TooMany = true)
    (mo_TooMany : PySem.W.mroIn K A_TooMany (.type "object") = some true)
    (sh_TooMany_HalfError : PySem.W.subIn K (.ref A_TooMany) (.ref A_HalfError) = some true)
    (xq_NoMore : PySem.W.excIn K A_NoMore [.type "ValueError", .type "Exception", .type "BaseException", .type "object"] "ValueError.__new__" = true)
    (ga_NoMore : PySem.W.findIn K (.ref A_NoMore) "__getattribute__" = some (some (.builtin "BaseException.__getattribute__")))
    (gg_NoMore : PySem.W.findIn K (.ref A_NoMore) "__getattr__" = some none)
    (cl_NoMore : PySem.W.findIn K (.ref A_NoMore) "__class__" = some (some (.builtin "object.__class__")))
    (kp_NoMore : PySem.W.keepIn K (.ref A_NoMore) = true)
    (eb_NoMore : PySem.W.subIn K (.ref A_NoMore) (.type "BaseException") = some true)
    (ty_NoMore : PySem.W.typeIn K (.ref A_NoMore) = some (.type "type"))
    (hd_NoMore : PySem.W.hasDictIn K A_NoMore = true)
    (mo_NoMore : PySem.W.mroIn K A_NoMore (.type "object") = some true)
    (sh_NoMore_HalfError : PySem.W.subIn K (.ref A_NoMore) (.ref A_HalfError) = some true)
    (sg0 : PySem.W.specialIn K (.builtin "object.__class__") "__get__" = some (some (.builtin "getset_descriptor.__get__")))
    (tk0 : PySem.W.takesIn K (.builtin "object.__class__") = some true)
    (eh_HalfError : PySem.W.subIn K (.ref A_HalfError) (.type "BaseException") = some true)
    (hh_HalfError : PySem.W.hasDictIn K A_HalfError = true)
    (th_HalfError : PySem.W.typeIn K (.ref A_HalfError) = some (.type "type"))
    (rd_HalfError : PySem.W.readsIn K A_HalfError (.type "type") = true)
    (sp_HalfError : PySem.W.specialIn K (.ref A_HalfError) "__getattribute__" = some (some (.builtin "type.__getattribute__")))
    (vv_HalfError : PySem.W.findCls K (.ref A_HalfError) (.type "type") "__init__" = some (.val (.builtin "ValueError.__init__")))
    (ko_Clash_Clash : PySem.W.kitOne K (.ref A_Clash) (.ref A_Clash) = some true)
    (ko_Clash_NoBound : PySem.W.kitOne K (.ref A_Clash) (.ref A_NoBound) = some false)
    (ko_Clash_NoCover : PySem.W.kitOne K (.ref A_Clash) (.ref A_NoCover) = some false)
    (ko_Clash_NoHalf : PySem.W.kitOne K (.ref A_Clash) (.ref A_NoHalf) = some false)
    (ko_Clash_NoJoin : PySem.W.kitOne K (.ref A_Clash) (.ref A_NoJoin) = some false)
    (ko_Clash_NoMore : PySem.W.kitOne K (.ref A_Clash) (.ref A_NoMore) = some false)
    (ko_Clash_NoName : PySem.W.kitOne K (.ref A_Clash) (.ref A_NoName) = some false)
    (ko_Clash_NoOrder : PySem.W.kitOne K (.ref A_Clash) (.ref A_NoOrder) = some false)
    (ko_Clash_NoPaper : PySem.W.kitOne K (.ref A_Clash) (.ref A_NoPaper) = some false)
    (ko_Clash_NoPlace : PySem.W.kitOne K (.ref A_Clash) (.ref A_NoPlace) = some false)
    (ko_Clash_NoPlan : PySem.W.kitOne K (.ref A_Clash) (.ref A_NoPlan) = some false)
    (ko_Clash_NoSaying : PySem.W.kitOne K (.ref A_Clash) (.ref A_NoSaying) = some false)
    (ko_Clash_NoText : PySem.W.kitOne K (.ref A_Clash) (.ref A_NoText) = some false)
    (ko_Clash_TooMany : PySem.W.kitOne K (.ref A_Clash) (.ref A_TooMany) = some false)
    (ko_Clash_ValueError : PySem.W.kitOne K (.ref A_Clash) (.type "ValueError") = some true)
    (ko_NoMore_Clash : PySem.W.kitOne K (.ref A_NoMore) (.ref A_Clash) = some false)
    (ko_NoMore_NoBound : PySem.W.kitOne K (.ref A_NoMore) (.ref A_NoBound) = some false)
    (ko_NoMore_NoCover : PySem.W.kitOne K (.ref A_NoMore) (.ref A_NoCover) = some false)
    (ko_NoMore_NoHalf : PySem.W.kitOne K (.ref A_NoMore) (.ref A_NoHalf) = some false)
    (ko_NoMore_NoJoin : PySem.W.kitOne K (.ref A_NoMore) (.ref A_NoJoin) = some false)
    (ko_NoMore_NoMore : PySem.W.kitOne K (.ref A_NoMore) (.ref A_NoMore) = some true)
    (ko_NoMore_NoName : PySem.W.kitOne K (.ref A_NoMore) (.ref A_NoName) = some false)
    (ko_NoMore_NoOrder : PySem.W.kitOne K (.ref A_NoMore) (.ref A_NoOrder) = some false)
    (ko_NoMore_NoPaper : PySem.W.kitOne K (.ref A_NoMore) (.ref A_NoPaper) = some false)
    (ko_NoMore_NoPlace : PySem.W.kitOne K (.ref A_NoMore) (.ref A_NoPlace) = some false)
    (ko_NoMore_NoPlan : PySem.W.kitOne K (.ref A_NoMore) (.ref A_NoPlan) = some false)
    (ko_NoMore_NoSaying : PySem.W.kitOne K (.ref A_NoMore) (.ref A_NoSaying) = some false)
    (ko_NoMore_NoText : PySem.W.kitOne K (.ref A_NoMore) (.ref A_NoText) = some false)
    (ko_NoMore_TooMany : PySem.W.kitOne K (.ref A_NoMore) (.ref A_TooMany) = some false)
    (ko_NoMore_ValueError : PySem.W.kitOne K (.ref A_NoMore) (.type "ValueError") = some true)
    (ko_NoName_Clash : PySem.W.kitOne K (.ref A_NoName) (.ref A_Clash) = some false)
    (ko_NoName_NoBound : PySem.W.kitOne K (.ref A_NoName) (.ref A_NoBound) = some false)
    (ko_NoName_NoCover : PySem.W.kitOne K (.ref A_NoName) (.ref A_NoCover) = some false)
    (ko_NoName_NoHalf : PySem.W.kitOne K (.ref A_NoName) (.ref A_NoHalf) = some false)
    (ko_NoName_NoJoin : PySem.W.kitOne K (.ref A_NoName) (.ref A_NoJoin) = some false)
    (ko_NoName_NoMore : PySem.W.kitOne K (.ref A_NoName) (.ref A_NoMore) = some false)
    (ko_NoName_NoName : PySem.W.kitOne K (.ref A_NoName) (.ref A_NoName) = some true)
    (ko_NoName_NoOrder : PySem.W.kitOne K (.ref A_NoName) (.ref A_NoOrder) = some false)
    (ko_NoName_NoPaper : PySem.W.kitOne K (.ref A_NoName) (.ref A_NoPaper) = some false)
    (ko_NoName_NoPlace : PySem.W.kitOne K (.ref A_NoName) (.ref A_NoPlace) = some false)
    (ko_NoName_NoPlan : PySem.W.kitOne K (.ref A_NoName) (.ref A_NoPlan) = some false)
    (ko_NoName_NoSaying : PySem.W.kitOne K (.ref A_NoName) (.ref A_NoSaying) = some false)
    (ko_NoName_NoText : PySem.W.kitOne K (.ref A_NoName) (.ref A_NoText) = some false)
    (ko_NoName_TooMany : PySem.W.kitOne K (.ref A_NoName) (.ref A_TooMany) = some false)
    (ko_NoName_ValueError : PySem.W.kitOne K (.ref A_NoName) (.type "ValueError") = some true)
    (ko_NoSaying_Clash : PySem.W.kitOne K (.ref A_NoSaying) (.ref A_Clash) = some false)
    (ko_NoSaying_NoBound : PySem.W.kitOne K (.ref A_NoSaying) (.ref A_NoBound) = some false)
    (ko_NoSaying_NoCover : PySem.W.kitOne K (.ref A_NoSaying) (.ref A_NoCover) = some false)
    (ko_NoSaying_NoHalf : PySem.W.kitOne K (.ref A_NoSaying) (.ref A_NoHalf) = some false)
    (ko_NoSaying_NoJoin : PySem.W.kitOne K (.ref A_NoSaying) (.ref A_NoJoin) = some false)
    (ko_NoSaying_NoMore : PySem.W.kitOne K (.ref A_NoSaying) (.ref A_NoMore) = some false)
    (ko_NoSaying_NoName : PySem.W.kitOne K (.ref A_NoSaying) (.ref A_NoName) = some false)
    (ko_NoSaying_NoOrder : PySem.W.kitOne K (.ref A_NoSaying) (.ref A_NoOrder) = some false)
    (ko_NoSaying_NoPaper : PySem.W.kitOne K (.ref A_NoSaying) (.ref A_NoPaper) = some false)
    (ko_NoSaying_NoPlace : PySem.W.kitOne K (.ref A_NoSaying) (.ref A_NoPlace) = some false)
    (ko_NoSaying_NoPlan : PySem.W.kitOne K (.ref A_NoSaying) (.ref A_NoPlan) = some false)
    (ko_NoSaying_NoSaying : PySem.W.kitOne K (.ref A_NoSaying) (.ref A_NoSaying) = some true)
    (ko_NoSaying_NoText : PySem.W.kitOne K (.ref A_NoSaying) (.ref A_NoText) = some false)
    (ko_NoSaying_TooMany : PySem.W.kitOne K (.ref A_NoSaying) (.ref A_TooMany) = some false)
    (ko_NoSaying_ValueError : PySem.W.kitOne K (.ref A_NoSaying) (.type "ValueError") = some true)
    (ko_TooMany_Clash : PySem.W.kitOne K (.ref A_TooMany) (.ref A_Clash) = some false)
    (ko_TooMany_NoBound : PySem.W.kitOne K (.ref A_TooMany) (.ref A_NoBound) = some false)
    (ko_TooMany_NoCover : PySem.W.kitOne K (.ref A_TooMany) (.ref A_NoCover) = some false)
    (ko_TooMany_NoHalf : PySem.W.kitOne K (.ref A_TooMany) (.ref A_NoHalf) = some false)
    (ko_TooMany_NoJoin : PySem.W.kitOne K (.ref A_TooMany) (.ref A_NoJoin) = some false)
    (ko_TooMany_NoMore : PySem.W.kitOne K (.ref A_TooMany) (.ref A_NoMore) = some false)
    (ko_TooMany_NoName : PySem.W.kitOne K (.ref A_TooMany) (.ref A_NoName) = some false)
    (ko_TooMany_NoOrder : PySem.W.kitOne K (.ref A_TooMany) (.ref A_NoOrder) = some false)
    (ko_TooMany_NoPaper : PySem.W.kitOne K (.ref A_TooMany) (.ref A_NoPaper) = some false)
    (ko_TooMany_NoPlace : PySem.W.kitOne K (.ref A_TooMany) (.ref A_NoPlace) = some false)
    (ko_TooMany_NoPlan : PySem.W.kitOne K (.ref A_TooMany) (.ref A_NoPlan) = some false)
    (ko_TooMany_NoSaying : PySem.W.kitOne K (.ref A_TooMany) (.ref A_NoSaying) = some false)
    (ko_TooMany_NoText : PySem.W.kitOne K (.ref A_TooMany) (.ref A_NoText) = some false)
    (ko_TooMany_TooMany : PySem.W.kitOne K (.ref A_TooMany) (.ref A_TooMany) = some true)
    (ko_TooMany_ValueError : PySem.W.kitOne K (.ref A_TooMany) (.type "ValueError") = some true)
    (z_ValueError : PySem.W.nsIn K mainGlobals "ValueError" = some none)
    (z_all : PySem.W.nsIn K mainGlobals "all" = some none)
    (z_bool : PySem.W.nsIn K mainGlobals "bool" = some none)
    (z_enumerate : PySem.W.nsIn K mainGlobals "enumerate" = some none)
    (z_int : PySem.W.nsIn K mainGlobals "int" = some none)
    (z_isinstance : PySem.W.nsIn K mainGlobals "isinstance" = some none)
    (z_len : PySem.W.nsIn K mainGlobals "len" = some none)
    (z_list : PySem.W.nsIn K mainGlobals "list" = some none)
    (z_range : PySem.W.nsIn K mainGlobals "range" = some none)
    (z_repr : PySem.W.nsIn K mainGlobals "repr" = some none)
    (z_set : PySem.W.nsIn K mainGlobals "set" = some none)
    (z_sorted : PySem.W.nsIn K mainGlobals "sorted" = some none)
    (z_str : PySem.W.nsIn K mainGlobals "str" = some none)
    (z_tuple : PySem.W.nsIn K mainGlobals "tuple" = some none)
    (q_LETTERS : PySem.W.nsIn K mainGlobals "LETTERS" = some (some (.str "abcdefghijklmnopqrstuvwxyz" tk_LETTERS)))
    (q_LONGEST : PySem.W.nsIn K mainGlobals "LONGEST" = some (some (.int 8 tk_LONGEST)))
    (q_MOST_NAMES : PySem.W.nsIn K mainGlobals "MOST_NAMES" = some (some (.int 10 tk_MOST_NAMES)))
    (q_MOST_SAYINGS_halves : PySem.W.nsIn K mainGlobals "MOST_SAYINGS_halves" = some (some (.int 60 tk_MOST_SAYINGS_halves)))
    (q_MOST_SAYINGS_keeping : PySem.W.nsIn K mainGlobals "MOST_SAYINGS_keeping" = some (some (.int 60 tk_MOST_SAYINGS_keeping)))
    : ∃ fd : FuncData, (∀ (s : Shared) (u : Value), BindsTo s fd ⟨[u], []⟩ [("_law_script", u)]) ∧ ∀ b : Heap, K.In b → b.Ns mainGlobals mg → FnG P w K mg b CX0 8 fa fd ["_law_script"] (spV K mg 1 [.leaf] 0 .leaf g_law) := by
  have e := hfa.symm.trans (PySem.W.mg_of X G a32)
  cases e
  have gs : Gs mg := ⟨PySem.W.mg_none_of X G z_ValueError, PySem.W.mg_none_of X G z_all, PySem.W.mg_none_of X G z_bool, PySem.W.mg_none_of X G z_enumerate, PySem.W.mg_none_of X G z_int, PySem.W.mg_none_of X G z_isinstance, PySem.W.mg_none_of X G z_len, PySem.W.mg_none_of X G z_list, PySem.W.mg_none_of X G z_range, PySem.W.mg_none_of X G z_repr, PySem.W.mg_none_of X G z_set, PySem.W.mg_none_of X G z_sorted, PySem.W.mg_none_of X G z_str, PySem.W.mg_none_of X G z_tuple, ⟨_, PySem.W.mg_of X G q_LETTERS⟩, ⟨_, PySem.W.mg_of X G q_LONGEST⟩, ⟨_, PySem.W.mg_of X G q_MOST_NAMES⟩, ⟨_, PySem.W.mg_of X G q_MOST_SAYINGS_halves⟩, ⟨_, PySem.W.mg_of X G q_MOST_SAYINGS_keeping⟩⟩
  have F0 := fun_mk (st := s_is_name) l0 e0 k0
  have F1 := fun_mk (st := s_are_names) l1 e1 k1
  have F2 := fun_mk (st := s_is_saying) l2 e2 k2
  have F3 := fun_mk (st := s_has_form) l3 e3 k3
  have F4 := fun_mk (st := s_way_by) l4 e4 k4
  have F5 := fun_mk (st := s_right_half) l5 e5 k5
  have F6 := fun_mk (st := s__law_feed) l6 e6 k6
  have F7 := fun_mk (st := s__law_draw) l7 e7 k7
  have F8 := fun_mk (st := s__law_names) l8 e8 k8
  have F9 := fun_mk (st := s__law_behind) l9 e9 k9
  have F10 := fun_mk (st := s__law_refusal) l10 e10 k10
  have F11 := fun_mk (st := s_Keeper__ask_names) l11 e11 k11
  have F12 := fun_mk (st := s_Keeper__numbers) l12 e12 k12
  have F13 := fun_mk (st := s_Keeper__lead) l13 e13 k13
  have F14 := fun_mk (st := s_Keeper__lay) l14 e14 k14
  have F15 := fun_mk (st := s_Keeper__do) l15 e15 k15
  have F16 := fun_mk (st := s_Keeper__say) l16 e16 k16
  have F17 := fun_mk (st := s_Keeper__saying) l17 e17 k17
  have F18 := fun_mk (st := s_Keeper__take) l18 e18 k18
  have F19 := fun_mk (st := s_Keeper__lift) l19 e19 k19
  have F20 := fun_mk (st := s_Keeper__undo) l20 e20 k20
  have F21 := fun_mk (st := s_Keeper__redo) l21 e21 k21
  have F22 := fun_mk (st := s_Keeper__knows) l22 e22 k22
  have F23 := fun_mk (st := s__law_told_by) l23 e23 k23
  have F24 := fun_mk (st := s__law_side) l24 e24 k24
  have F25 := fun_mk (st := s__law_half_of) l25 e25 k25
  have F26 := fun_mk (st := s__law_is_way) l26 e26 k26
  have F27 := fun_mk (st := s__law_say) l27 e27 k27
  have F28 := fun_mk (st := s_Keeper__half) l28 e28 k28
  have F29 := fun_mk (st := s__law_looked) l29 e29 k29
  have F30 := fun_mk (st := s__law_asked) l30 e30 k30
  have F31 := fun_mk (st := s_Keeper____init__) l31 e31 k31
  have F32 := fun_mk (st := s_law) l32 e32 k32
  have KC_Keeper : Kc_Keeper K mg A_Keeper f31 := ⟨⟨kp0_Keeper, kp1_Keeper, kp2_Keeper, kp3_Keeper⟩, ⟨km0_Keeper, kt_Keeper____init__, ku_Keeper____init__, km3_Keeper⟩, PySem.W.mg_of X G kg_Keeper, kn_Keeper_names_told, kn_Keeper_kept, kn_Keeper_next_number, kn_Keeper_deeds, kn_Keeper_undone⟩
  refine ⟨PySem.W.fnOf "law" "law" (defArgs s_law) (defBody s_law) (defScope s_law) .none kV32 dc32 pm32 an32 cd32 ct32, fun s v => .of_eq rfl, fun b _ _ => ?_⟩
  have gg_Clash_ := PySem.W.mg_of X G ac_Clash
  have gg_HalfError_ := PySem.W.mg_of X G ac_HalfError
  have gg_NoBound_ := PySem.W.mg_of X G ac_NoBound
  have gg_NoCover_ := PySem.W.mg_of X G ac_NoCover
  have gg_NoHalf_ := PySem.W.mg_of X G ac_NoHalf
  have gg_NoJoin_ := PySem.W.mg_of X G ac_NoJoin
  have gg_NoMore_ := PySem.W.mg_of X G ac_NoMore
  have gg_NoName_ := PySem.W.mg_of X G ac_NoName
  have gg_NoOrder_ := PySem.W.mg_of X G ac_NoOrder
  have gg_NoPaper_ := PySem.W.mg_of X G ac_NoPaper
  have gg_NoPlace_ := PySem.W.mg_of X G ac_NoPlace
  have gg_NoPlan_ := PySem.W.mg_of X G ac_NoPlan
  have gg_NoSaying_ := PySem.W.mg_of X G ac_NoSaying
  have gg_NoText_ := PySem.W.mg_of X G ac_NoText
  have gg_TooMany_ := PySem.W.mg_of X G ac_TooMany
  have ox_Clash : OexC K A_Clash := ⟨⟨nm_Clash, q_Clash, N_Clash, bs_Clash, _, sn_Clash, sub_Clash, ab_Clash, col_Clash, dd_Clash, m0_Clash, m1_Clash, m2_Clash, m3_Clash, m5_Clash, xl_Clash, rfl⟩, sa_Clash, eb_Clash, ty_Clash, kp_Clash⟩
  have FI_Clash := fun_mk (st := s_init_Clash) l1_Clash c1_Clash kk_Clash
  have bI_Clash := FI_Clash.binds (ps := ["self", "way"]) fun _ _ _ _ _ _ us hl => match us, hl with | [_, _], _ => rfl
  have zz_Clash : ExK P w K mg b "Clash" ["way"] A_Clash := exK_of gg_Clash_ ox_Clash i1_Clash t1_Clash (in_Clash (w := w) (base := b) FI_Clash gg_HalfError_ ⟨rd_HalfError, sp_HalfError⟩ vv_HalfError ox_Clash nf_Clash_way) bI_Clash
  have ox_NoName : OexC K A_NoName := ⟨⟨nm_NoName, q_NoName, N_NoName, bs_NoName, _, sn_NoName, sub_NoName, ab_NoName, col_NoName, dd_NoName, m0_NoName, m1_NoName, m2_NoName, m3_NoName, m5_NoName, xl_NoName, rfl⟩, sa_NoName, eb_NoName, ty_NoName, kp_NoName⟩
  have FI_NoName := fun_mk (st := s_init_NoName) l1_NoName c1_NoName kk_NoName
  have bI_NoName := FI_NoName.binds (ps := ["self", "name"]) fun _ _ _ _ _ _ us hl => match us, hl with | [_, _], _ => rfl
  have zz_NoName : ExK P w K mg b "NoName" ["name"] A_NoName := exK_of gg_NoName_ ox_NoName i1_NoName t1_NoName (in_NoName (w := w) (base := b) FI_NoName gg_HalfError_ ⟨rd_HalfError, sp_HalfError⟩ vv_HalfError ox_NoName nf_NoName_name) bI_NoName
  have ox_NoSaying : OexC K A_NoSaying := ⟨⟨nm_NoSaying, q_NoSaying, N_NoSaying, bs_NoSaying, _, sn_NoSaying, sub_NoSaying, ab_NoSaying, col_NoSaying, dd_NoSaying, m0_NoSaying, m1_NoSaying, m2_NoSaying, m3_NoSaying, m5_NoSaying, xl_NoSaying, rfl⟩, sa_NoSaying, eb_NoSaying, ty_NoSaying, kp_NoSaying⟩
  have FI_NoSaying := fun_mk (st := s_init_NoSaying) l1_NoSaying c1_NoSaying kk_NoSaying
  have bI_NoSaying := FI_NoSaying.binds (ps := ["self", "number"]) fun _ _ _ _ _ _ us hl => match us, hl with | [_, _], _ => rfl
  have zz_NoSaying : ExK P w K mg b "NoSaying" ["number"] A_NoSaying := exK_of gg_NoSaying_ ox_NoSaying i1_NoSaying t1_NoSaying (in_NoSaying (w := w) (base := b) FI_NoSaying gg_HalfError_ ⟨rd_HalfError, sp_HalfError⟩ vv_HalfError ox_NoSaying nf_NoSaying_number) bI_NoSaying
  have ox_TooMany : OexC K A_TooMany := ⟨⟨nm_TooMany, q_TooMany, N_TooMany, bs_TooMany, _, sn_TooMany, sub_TooMany, ab_TooMany, col_TooMany, dd_TooMany, m0_TooMany, m1_TooMany, m2_TooMany, m3_TooMany, m5_TooMany, xl_TooMany, rfl⟩, sa_TooMany, eb_TooMany, ty_TooMany, kp_TooMany⟩
  have FI_TooMany := fun_mk (st := s_init_TooMany) l1_TooMany c1_TooMany kk_TooMany
  have bI_TooMany := FI_TooMany.binds (ps := ["self", "word"]) fun _ _ _ _ _ _ us hl => match us, hl with | [_, _], _ => rfl
  have zz_TooMany : ExK P w K mg b "TooMany" ["word"] A_TooMany := exK_of gg_TooMany_ ox_TooMany i1_TooMany t1_TooMany (in_TooMany (w := w) (base := b) FI_TooMany gg_HalfError_ ⟨rd_HalfError, sp_HalfError⟩ vv_HalfError ox_TooMany nf_TooMany_word) bI_TooMany
  have zz_NoMore : ExN K mg "NoMore" A_NoMore := ⟨gg_NoMore_, ⟨_, _, _, _, PySem.F.excBase_ValueError, xq_NoMore⟩, kp_NoMore, eb_NoMore, ty_NoMore⟩
  have zs : Xs w K mg b A_Clash A_HalfError A_NoBound A_NoCover A_NoHalf A_NoJoin A_NoMore A_NoName A_NoOrder A_NoPaper A_NoPlace A_NoPlan A_NoSaying A_NoText A_TooMany := ⟨gg_Clash_, gg_HalfError_, gg_NoBound_, gg_NoCover_, gg_NoHalf_, gg_NoJoin_, gg_NoMore_, gg_NoName_, gg_NoOrder_, gg_NoPaper_, gg_NoPlace_, gg_NoPlan_, gg_NoSaying_, gg_NoText_, gg_TooMany_, zz_Clash, ⟨ga_Clash, gg_Clash, eb_Clash, hd_Clash⟩, ⟨ga_Clash, gg_Clash, eb_Clash, hd_Clash, cl_Clash, sg0, tk0, mo_Clash⟩, nf_Clash_way, PySem.W.exm_ref eh_HalfError hh_HalfError th_HalfError sh_Clash_HalfError, zz_NoName, ⟨ga_NoName, gg_NoName, eb_NoName, hd_NoName⟩, ⟨ga_NoName, gg_NoName, eb_NoName, hd_NoName, cl_NoName, sg0, tk0, mo_NoName⟩, nf_NoName_name, PySem.W.exm_ref eh_HalfError hh_HalfError th_HalfError sh_NoName_HalfError, zz_NoSaying, ⟨ga_NoSaying, gg_NoSaying, eb_NoSaying, hd_NoSaying⟩, ⟨ga_NoSaying, gg_NoSaying, eb_NoSaying, hd_NoSaying, cl_NoSaying, sg0, tk0, mo_NoSaying⟩, nf_NoSaying_number, PySem.W.exm_ref eh_HalfError hh_HalfError th_HalfError sh_NoSaying_HalfError, zz_TooMany, ⟨ga_TooMany, gg_TooMany, eb_TooMany, hd_TooMany⟩, ⟨ga_TooMany, gg_TooMany, eb_TooMany, hd_TooMany, cl_TooMany, sg0, tk0, mo_TooMany⟩, nf_TooMany_word, PySem.W.exm_ref eh_HalfError hh_HalfError th_HalfError sh_TooMany_HalfError, zz_NoMore, ⟨ga_NoMore, gg_NoMore, eb_NoMore, hd_NoMore⟩, ⟨ga_NoMore, gg_NoMore, eb_NoMore, hd_NoMore, cl_NoMore, sg0, tk0, mo_NoMore⟩, PySem.W.exm_ref eh_HalfError hh_HalfError th_HalfError sh_NoMore_HalfError, ko_Clash_Clash, ko_Clash_NoBound, ko_Clash_NoCover, ko_Clash_NoHalf, ko_Clash_NoJoin, ko_Clash_NoMore, ko_Clash_NoName, ko_Clash_NoOrder, ko_Clash_NoPaper, ko_Clash_NoPlace, ko_Clash_NoPlan, ko_Clash_NoSaying, ko_Clash_NoText, ko_Clash_TooMany, ko_Clash_ValueError, ko_NoMore_Clash, ko_NoMore_NoBound, ko_NoMore_NoCover, ko_NoMore_NoHalf, ko_NoMore_NoJoin, ko_NoMore_NoMore, ko_NoMore_NoName, ko_NoMore_NoOrder, ko_NoMore_NoPaper, ko_NoMore_NoPlace, ko_NoMore_NoPlan, ko_NoMore_NoSaying, ko_NoMore_NoText, ko_NoMore_TooMany, ko_NoMore_ValueError, ko_NoName_Clash, ko_NoName_NoBound, ko_NoName_NoCover, ko_NoName_NoHalf, ko_NoName_NoJoin, ko_NoName_NoMore, ko_NoName_NoName, ko_NoName_NoOrder, ko_NoName_NoPaper, ko_NoName_NoPlace, ko_NoName_NoPlan, ko_NoName_NoSaying, ko_NoName_NoText, ko_NoName_TooMany, ko_NoName_ValueError, ko_NoSaying_Clash, ko_NoSaying_NoBound, ko_NoSaying_NoCover, ko_NoSaying_NoHalf, ko_NoSaying_NoJoin, ko_NoSaying_NoMore, ko_NoSaying_NoName, ko_NoSaying_NoOrder, ko_NoSaying_NoPaper, ko_NoSaying_NoPlace, ko_NoSaying_NoPlan, ko_NoSaying_NoSaying, ko_NoSaying_NoText, ko_NoSaying_TooMany, ko_NoSaying_ValueError, ko_TooMany_Clash, ko_TooMany_NoBound, ko_TooMany_NoCover, ko_TooMany_NoHalf, ko_TooMany_NoJoin, ko_TooMany_NoMore, ko_TooMany_NoName, ko_TooMany_NoOrder, ko_TooMany_NoPaper, ko_TooMany_NoPlace, ko_TooMany_NoPlan, ko_TooMany_NoSaying, ko_TooMany_NoText, ko_TooMany_TooMany, ko_TooMany_ValueError⟩
  have C_is_name := clp_of (fn_is_name (w := w) (base := b) F0 gs   ) (PySem.W.mg_of X G a0) F0.kp (F0.binds (ps := ["thing"]) fun _ _ _ _ _ _ us hl => match us, hl with | [_], _ => rfl)
  have C_are_names := clp_of (fn_are_names (w := w) (base := b) F1 gs C_is_name  ) (PySem.W.mg_of X G a1) F1.kp (F1.binds (ps := ["thing"]) fun _ _ _ _ _ _ us hl => match us, hl with | [_], _ => rfl)
  have C_is_saying := clp_of (fn_is_saying (w := w) (base := b) F2 gs C_is_name  ) (PySem.W.mg_of X G a2) F2.kp (F2.binds (ps := ["names", "thing"]) fun _ _ _ _ _ _ us hl => match us, hl with | [_, _], _ => rfl)
  have C_has_form := clp_of (fn_has_form (w := w) (base := b) F3 gs C_are_names  ) (PySem.W.mg_of X G a3) F3.kp (F3.binds (ps := ["thing"]) fun _ _ _ _ _ _ us hl => match us, hl with | [_], _ => rfl)
  have C_way_by := clp_of (fn_way_by (w := w) (base := b) F4 gs   ) (PySem.W.mg_of X G a4) F4.kp (F4.binds (ps := ["sayings", "begin", "end"]) fun _ _ _ _ _ _ us hl => match us, hl with | [_, _, _], _ => rfl)
  have C_right_half := clp_of (fn_right_half (w := w) (base := b) F5 gs C_has_form C_is_saying C_way_by  ) (PySem.W.mg_of X G a5) F5.kp (F5.binds (ps := ["thing"]) fun _ _ _ _ _ _ us hl => match us, hl with | [_], _ => rfl)
  have C__law_feed := clp_of (fn__law_feed (w := w) (base := b) F6 gs   ) (PySem.W.mg_of X G a6) F6.kp (F6.binds (ps := ["_law_script"]) fun _ _ _ _ _ _ us hl => match us, hl with | [_], _ => rfl)
  have C__law_draw := clp_of (fn__law_draw (w := w) (base := b) F7 gs   ) (PySem.W.mg_of X G a7) F7.kp (F7.binds (ps := ["_law_feed_here", "_law_many"]) fun _ _ _ _ _ _ us hl => match us, hl with | [_, _], _ => rfl)
  have C__law_names := clp_of (fn__law_names (w := w) (base := b) F8 gs C__law_draw  ) (PySem.W.mg_of X G a8) F8.kp (F8.binds (ps := ["_law_feed_here", "_law_many"]) fun _ _ _ _ _ _ us hl => match us, hl with | [_, _], _ => rfl)
  have C__law_behind := clp_of (fn__law_behind (w := w) (base := b) F9 gs   ) (PySem.W.mg_of X G a9) F9.kp (F9.binds (ps := ["_law_half", "_law_name"]) fun _ _ _ _ _ _ us hl => match us, hl with | [_, _], _ => rfl)
  have CE__law_refusal : Elp P w K mg b 1 "_law_refusal" g__law_refusal := elp_of (fn__law_refusal (w := w) (base := b) F10 gs zs   ) (PySem.W.mg_of X G a10) F10.kp (F10.binds (ps := ["_law_e"]) fun _ _ _ _ _ _ us hl => match us, hl with | [_], _ => rfl)
  have CX_Keeper__ask_names := mlp_of (m := "ask_names") (C := A_Keeper) (fn_Keeper__ask_names (w := w) (base := b) F11 gs zs KC_Keeper   ) ⟨kt_Keeper__ask_names, ku_Keeper__ask_names, k11⟩ (F11.binds (ps := ["self", "name", "other"]) fun _ _ _ _ _ _ us hl => match us, hl with | [_, _, _], _ => rfl)
  have C_Keeper__ask_names : Mlp P w K mg b CX0 3 A_Keeper "ask_names" 3 ((.ins A_Keeper sf_Keeper) :: leaves 2) 1 .leaf g_Keeper__ask_names := CX_Keeper__ask_names.noex
  have C_Keeper__numbers := mlp_of (m := "numbers") (C := A_Keeper) (fn_Keeper__numbers (w := w) (base := b) F12 gs KC_Keeper   ) ⟨kt_Keeper__numbers, ku_Keeper__numbers, k12⟩ (F12.binds (ps := ["self"]) fun _ _ _ _ _ _ us hl => match us, hl with | [_], _ => rfl)
  have CX_Keeper__lead := mlp_of (m := "lead") (C := A_Keeper) (fn_Keeper__lead (w := w) (base := b) F13 gs KC_Keeper C_Keeper__numbers CX_Keeper__ask_names ) ⟨kt_Keeper__lead, ku_Keeper__lead, k13⟩ (F13.binds (ps := ["self", "name", "other"]) fun _ _ _ _ _ _ us hl => match us, hl with | [_, _, _], _ => rfl)
  have C_Keeper__lead : Mlp P w K mg b CX0 4 A_Keeper "lead" 3 ((.ins A_Keeper sf_Keeper) :: leaves 2) 1 .leaf g_Keeper__lead := CX_Keeper__lead.noex
  have C_Keeper__lay := mlp_of (m := "lay") (C := A_Keeper) (fn_Keeper__lay (w := w) (base := b) F14 gs KC_Keeper   ) ⟨kt_Keeper__lay, ku_Keeper__lay, k14⟩ (F14.binds (ps := ["self", "deed"]) fun _ _ _ _ _ _ us hl => match us, hl with | [_, _], _ => rfl)
  have C_Keeper__do := mlp_of (m := "do") (C := A_Keeper) (fn_Keeper__do (w := w) (base := b) F15 gs KC_Keeper C_Keeper__lay  ) ⟨kt_Keeper__do, ku_Keeper__do, k15⟩ (F15.binds (ps := ["self", "deed"]) fun _ _ _ _ _ _ us hl => match us, hl with | [_, _], _ => rfl)
  have CX_Keeper__say := mlp_of (m := "say") (C := A_Keeper) (fn_Keeper__say (w := w) (base := b) F16 gs zs KC_Keeper C_Keeper__do CX_Keeper__ask_names CX_Keeper__lead ) ⟨kt_Keeper__say, ku_Keeper__say, k16⟩ (F16.binds (ps := ["self", "name", "other"]) fun _ _ _ _ _ _ us hl => match us, hl with | [_, _, _], _ => rfl)
  have C_Keeper__say : Mlp P w K mg b CX0 5 A_Keeper "say" 3 ((.ins A_Keeper sf_Keeper) :: leaves 2) 1 .leaf g_Keeper__say := CX_Keeper__say.noex
  have CX_Keeper__saying := mlp_of (m := "saying") (C := A_Keeper) (fn_Keeper__saying (w := w) (base := b) F17 gs zs KC_Keeper   ) ⟨kt_Keeper__saying, ku_Keeper__saying, k17⟩ (F17.binds (ps := ["self", "number"]) fun _ _ _ _ _ _ us hl => match us, hl with | [_, _], _ => rfl)
  have C_Keeper__saying : Mlp P w K mg b CX0 3 A_Keeper "saying" 2 ((.ins A_Keeper sf_Keeper) :: leaves 1) 1 .leaf g_Keeper__saying := CX_Keeper__saying.noex
  have CX_Keeper__take := mlp_of (m := "take") (C := A_Keeper) (fn_Keeper__take (w := w) (base := b) F18 gs KC_Keeper C_Keeper__do CX_Keeper__saying ) ⟨kt_Keeper__take, ku_Keeper__take, k18⟩ (F18.binds (ps := ["self", "number"]) fun _ _ _ _ _ _ us hl => match us, hl with | [_, _], _ => rfl)
  have C_Keeper__take : Mlp P w K mg b CX0 4 A_Keeper "take" 2 ((.ins A_Keeper sf_Keeper) :: leaves 1) 1 .leaf g_Keeper__take := CX_Keeper__take.noex
  have C_Keeper__lift := mlp_of (m := "lift") (C := A_Keeper) (fn_Keeper__lift (w := w) (base := b) F19 gs KC_Keeper   ) ⟨kt_Keeper__lift, ku_Keeper__lift, k19⟩ (F19.binds (ps := ["self", "deed"]) fun _ _ _ _ _ _ us hl => match us, hl with | [_, _], _ => rfl)
  have CX_Keeper__undo := mlp_of (m := "undo") (C := A_Keeper) (fn_Keeper__undo (w := w) (base := b) F20 gs zs KC_Keeper C_Keeper__lift  ) ⟨kt_Keeper__undo, ku_Keeper__undo, k20⟩ (F20.binds (ps := ["self"]) fun _ _ _ _ _ _ us hl => match us, hl with | [_], _ => rfl)
  have C_Keeper__undo : Mlp P w K mg b CX0 3 A_Keeper "undo" 1 ((.ins A_Keeper sf_Keeper) :: leaves 0) 1 .leaf g_Keeper__undo := CX_Keeper__undo.noex
  have CX_Keeper__redo := mlp_of (m := "redo") (C := A_Keeper) (fn_Keeper__redo (w := w) (base := b) F21 gs zs KC_Keeper C_Keeper__lay  ) ⟨kt_Keeper__redo, ku_Keeper__redo, k21⟩ (F21.binds (ps := ["self"]) fun _ _ _ _ _ _ us hl => match us, hl with | [_], _ => rfl)
  have C_Keeper__redo : Mlp P w K mg b CX0 3 A_Keeper "redo" 1 ((.ins A_Keeper sf_Keeper) :: leaves 0) 1 .leaf g_Keeper__redo := CX_Keeper__redo.noex
  have CX_Keeper__knows := mlp_of (m := "knows") (C := A_Keeper) (fn_Keeper__knows (w := w) (base := b) F22 gs KC_Keeper  CX_Keeper__lead ) ⟨kt_Keeper__knows, ku_Keeper__knows, k22⟩ (F22.binds (ps := ["self", "name", "other"]) fun _ _ _ _ _ _ us hl => match us, hl with | [_, _, _], _ => rfl)
  have C_Keeper__knows : Mlp P w K mg b CX0 5 A_Keeper "knows" 3 ((.ins A_Keeper sf_Keeper) :: leaves 2) 1 .leaf g_Keeper__knows := CX_Keeper__knows.noex
  have C__law_told_by := clp_of (fn__law_told_by (w := w) (base := b) F23 gs zs KC_Keeper  CX_Keeper__knows CX_Keeper__lead CX_Keeper__redo CX_Keeper__say CX_Keeper__saying CX_Keeper__take CX_Keeper__undo CE__law_refusal) (PySem.W.mg_of X G a23) F23.kp (F23.binds (ps := ["_law_keeper", "_law_word", "_law_one", "_law_other"]) fun _ _ _ _ _ _ us hl => match us, hl with | [_, _, _, _], _ => rfl)
  have C__law_side := clp_of (fn__law_side (w := w) (base := b) F24 gs KC_Keeper   ) (PySem.W.mg_of X G a24) F24.kp (F24.binds (ps := ["_law_names_here", "_law_keeper"]) fun _ _ _ _ _ _ us hl => match us, hl with | [_, _], _ => rfl)
  have C__law_half_of := clp_of (fn__law_half_of (w := w) (base := b) F25 gs KC_Keeper   ) (PySem.W.mg_of X G a25) F25.kp (F25.binds (ps := ["_law_side_here"]) fun _ _ _ _ _ _ us hl => match us, hl with | [_], _ => rfl)
  have CQ__law_half_of := fun q => clp_of (fnq__law_half_of (w := w) (base := b) (q := q) F25 gs KC_Keeper   ) (PySem.W.mg_of X G a25) F25.kp (F25.binds (ps := ["_law_side_here"]) fun _ _ _ _ _ _ us hl => match us, hl with | [_], _ => rfl)
  have C__law_is_way := clp_of (fn__law_is_way (w := w) (base := b) F26 gs KC_Keeper   ) (PySem.W.mg_of X G a26) F26.kp (F26.binds (ps := ["_law_side_here", "_law_way", "_law_name", "_law_other"]) fun _ _ _ _ _ _ us hl => match us, hl with | [_, _, _, _], _ => rfl)
  have C__law_say := clp_of (fn__law_say (w := w) (base := b) F27 gs KC_Keeper C__law_behind C__law_half_of C__law_is_way C__law_told_by  ) (PySem.W.mg_of X G a27) F27.kp (F27.binds (ps := ["_law_side_here", "_law_name", "_law_other"]) fun _ _ _ _ _ _ us hl => match us, hl with | [_, _, _], _ => rfl)
  have C_Keeper__half := mlp_of (m := "half") (C := A_Keeper) (fn_Keeper__half (w := w) (base := b) F28 gs KC_Keeper C_Keeper__numbers  ) ⟨kt_Keeper__half, ku_Keeper__half, k28⟩ (F28.binds (ps := ["self"]) fun _ _ _ _ _ _ us hl => match us, hl with | [_], _ => rfl)
  have C__law_looked := clp_of (fn__law_looked (w := w) (base := b) F29 gs KC_Keeper C_Keeper__half C_Keeper__numbers C__law_told_by  CQ__law_half_of) (PySem.W.mg_of X G a29) F29.kp (F29.binds (ps := ["_law_side_here"]) fun _ _ _ _ _ _ us hl => match us, hl with | [_], _ => rfl)
  have C__law_asked := clp_of (fn__law_asked (w := w) (base := b) F30 gs KC_Keeper C__law_behind C__law_half_of C__law_is_way C__law_told_by  ) (PySem.W.mg_of X G a30) F30.kp (F30.binds (ps := ["_law_side_here", "_law_name", "_law_other"]) fun _ _ _ _ _ _ us hl => match us, hl with | [_, _, _], _ => rfl)
  have C_Keeper____init__ := nlp_of (fn_Keeper____init__ (w := w) (base := b) F31 gs KC_Keeper C_right_half  ) (F31.binds (ps := ["self", "names"]) fun _ _ _ _ _ _ us hl => match us, hl with | [_, _], _ => rfl)
  exact fn_law (w := w) (base := b) F32 gs KC_Keeper C_Keeper____init__ C__law_asked C__law_draw C__law_feed C__law_looked C__law_names C__law_say C__law_side C__law_told_by  
end VL
open PySem PySem.W PyProof.Rows
set_option maxHeartbeats 0 in
theorem PySem.Challenge.cw_halforder_k75_sayings_clash_and_lead_holds : PySem.Challenge.rw_halforder_k75_sayings_clash_and_lead.Holds := by
  w_on; o_law; k_head; (case hw => w_witness2)
  k_fill
  refine VL.walk_V (l := PySem.Challenge.rw_halforder_k75_sayings_clash_and_lead) (n := 63) (k := 8) (x := "_law_script") (CX := fun _ => L2.CX0) (g := fun _ _ => VL.g_law) rfl (by decide) rfl ⟨rfl, by decide, by decide⟩ (fun w h Y => PySem.W.kIn_of Y) ?F (fun _ _ ms hl => VL.law_true ms hl) (fun _ _ _ _ _ h => h)
  case F =>
    intro w mg fa h KX G hmg
    refine' VL.all_mk KX G hmg ?a0 ?l0 ?e0 ?k0 ?a1 ?l1 ?e1 ?k1 ?a2 ?l2 ?e2 ?k2 ?a3 ?l3 ?e3 ?k3 ?a4 ?l4 ?e4 ?k4 ?a5 ?l5 ?e5 ?k5 ?a6 ?l6 ?e6 ?k6 ?a7 ?l7 ?e7 ?k7 ?a8 ?l8 ?e8 ?k8 ?a9 ?l9 ?e9 ?k9 ?a10 ?l10 ?e10 ?k10 ?l11 ?e11 ?k11 ?l12 ?e12 ?k12 ?l13 ?e13 ?k13 ?l14 ?e14 ?k14 ?l15 ?e15 ?k15 ?l16 ?e16 ?k16 ?l17 ?e17 ?k17 ?l18 ?e18 ?k18 ?l19 ?e19 ?k19 ?l20 ?e20 ?k20 ?l21 ?e21 ?k21 ?l22 ?e22 ?k22 ?a23 ?l23 ?e23 ?k23 ?a24 ?l24 ?e24 ?k24 ?a25 ?l25 ?e25 ?k25 ?a26 ?l26 ?e26 ?k26 ?a27 ?l27 ?e27 ?k27 ?l28 ?e28 ?k28 ?a29 ?l29 ?e29 ?k29 ?a30 ?l30 ?e30 ?k30 ?l31 ?e31 ?k31 ?a32 ?l32 ?e32 ?k32 ?kg_Keeper ?kp0_Keeper ?kp1_Keeper ?kp2_Keeper ?kp3_Keeper ?km0_Keeper ?km3_Keeper ?kn_Keeper_names_told ?kn_Keeper_kept ?kn_Keeper_next_number ?kn_Keeper_deeds ?kn_Keeper_undone ?kt_Keeper____init__ ?ku_Keeper____init__ ?kt_Keeper__ask_names ?ku_Keeper__ask_names ?kt_Keeper__numbers ?ku_Keeper__numbers ?kt_Keeper__lead ?ku_Keeper__lead ?kt_Keeper__lay ?ku_Keeper__lay ?kt_Keeper__lift ?ku_Keeper__lift ?kt_Keeper__do ?ku_Keeper__do ?kt_Keeper__say ?ku_Keeper__say ?kt_Keeper__saying ?ku_Keeper__saying ?kt_Keeper__take ?ku_Keeper__take ?kt_Keeper__undo ?ku_Keeper__undo ?kt_Keeper__redo ?ku_Keeper__redo ?kt_Keeper__half ?ku_Keeper__half ?kt_Keeper__knows ?ku_Keeper__knows ?ac_Clash ?ac_HalfError ?ac_NoBound ?ac_NoCover ?ac_NoHalf ?ac_NoJoin ?ac_NoMore ?ac_NoName ?ac_NoOrder ?ac_NoPaper ?ac_NoPlace ?ac_NoPlan ?ac_NoSaying ?ac_NoText ?ac_TooMany ?xl_Clash ?sa_Clash ?i1_Clash ?t1_Clash ?l1_Clash ?c1_Clash ?kk_Clash ?nf_Clash_way ?ga_Clash ?gg_Clash ?cl_Clash ?kp_Clash ?eb_Clash ?ty_Clash ?hd_Clash ?mo_Clash ?sh_Clash_HalfError ?xl_NoName ?sa_NoName ?i1_NoName ?t1_NoName ?l1_NoName ?c1_NoName ?kk_NoName ?nf_NoName_name ?ga_NoName ?gg_NoName ?cl_NoName ?kp_NoName ?eb_NoName ?ty_NoName ?hd_NoName ?mo_NoName ?sh_NoName_HalfError ?xl_NoSaying ?sa_NoSaying ?i1_NoSaying ?t1_NoSaying ?l1_NoSaying ?c1_NoSaying ?kk_NoSaying ?nf_NoSaying_number ?ga_NoSaying ?gg_NoSaying ?cl_NoSaying ?kp_NoSaying ?eb_NoSaying ?ty_NoSaying ?hd_NoSaying ?mo_NoSaying ?sh_NoSaying_HalfError ?xl_TooMany ?sa_TooMany ?i1_TooMany ?t1_TooMany ?l1_TooMany ?c1_TooMany ?kk_TooMany ?nf_TooMany_word ?ga_TooMany ?gg_TooMany ?cl_TooMany ?kp_TooMany ?eb_TooMany ?ty_TooMany ?hd_TooMany ?mo_TooMany ?sh_TooMany_HalfError ?xq_NoMore ?ga_NoMore ?gg_NoMore ?cl_NoMore ?kp_NoMore ?eb_NoMore ?ty_NoMore ?hd_NoMore ?mo_NoMore ?sh_NoMore_HalfError ?sg0 ?tk0 ?eh_HalfError ?hh_HalfError ?th_HalfError ?rd_HalfError ?sp_HalfError ?vv_HalfError ?ko_Clash_Clash ?ko_Clash_NoBound ?ko_Clash_NoCover ?ko_Clash_NoHalf ?ko_Clash_NoJoin ?ko_Clash_NoMore ?ko_Clash_NoName ?ko_Clash_NoOrder ?ko_Clash_NoPaper ?ko_Clash_NoPlace ?ko_Clash_NoPlan ?ko_Clash_NoSaying ?ko_Clash_NoText ?ko_Clash_TooMany ?ko_Clash_ValueError ?ko_NoMore_Clash ?ko_NoMore_NoBound ?ko_NoMore_NoCover ?ko_NoMore_NoHalf ?ko_NoMore_NoJoin ?ko_NoMore_NoMore ?ko_NoMore_NoName ?ko_NoMore_NoOrder ?ko_NoMore_NoPaper ?ko_NoMore_NoPlace ?ko_NoMore_NoPlan ?ko_NoMore_NoSaying ?ko_NoMore_NoText ?ko_NoMore_TooMany ?ko_NoMore_ValueError ?ko_NoName_Clash ?ko_NoName_NoBound ?ko_NoName_NoCover ?ko_NoName_NoHalf ?ko_NoName_NoJoin ?ko_NoName_NoMore ?ko_NoName_NoName ?ko_NoName_NoOrder ?ko_NoName_NoPaper ?ko_NoName_NoPlace ?ko_NoName_NoPlan ?ko_NoName_NoSaying ?ko_NoName_NoText ?ko_NoName_TooMany ?ko_NoName_ValueError ?ko_NoSaying_Clash ?ko_NoSaying_NoBound ?ko_NoSaying_NoCover ?ko_NoSaying_NoHalf ?ko_NoSaying_NoJoin ?ko_NoSaying_NoMore ?ko_NoSaying_NoName ?ko_NoSaying_NoOrder ?ko_NoSaying_NoPaper ?ko_NoSaying_NoPlace ?ko_NoSaying_NoPlan ?ko_NoSaying_NoSaying ?ko_NoSaying_NoText ?ko_NoSaying_TooMany ?ko_NoSaying_ValueError ?ko_TooMany_Clash ?ko_TooMany_NoBound ?ko_TooMany_NoCover ?ko_TooMany_NoHalf ?ko_TooMany_NoJoin ?ko_TooMany_NoMore ?ko_TooMany_NoName ?ko_TooMany_NoOrder ?ko_TooMany_NoPaper ?ko_TooMany_NoPlace ?ko_TooMany_NoPlan ?ko_TooMany_NoSaying ?ko_TooMany_NoText ?ko_TooMany_TooMany ?ko_TooMany_ValueError ?z_ValueError ?z_all ?z_bool ?z_enumerate ?z_int ?z_isinstance ?z_len ?z_list ?z_range ?z_repr ?z_set ?z_sorted ?z_str ?z_tuple ?q_LETTERS ?q_LONGEST ?q_MOST_NAMES ?q_MOST_SAYINGS_halves ?q_MOST_SAYINGS_keeping
    (case kg_Keeper => k_is); (case kt_Keeper____init__ => k_is); (case kt_Keeper__ask_names => k_is); (case kt_Keeper__numbers => k_is); (case kt_Keeper__lead => k_is); (case kt_Keeper__lay => k_is); (case kt_Keeper__lift => k_is); (case kt_Keeper__do => k_is); (case kt_Keeper__say => k_is); (case kt_Keeper__saying => k_is); (case kt_Keeper__take => k_is); (case kt_Keeper__undo => k_is); (case kt_Keeper__redo => k_is); (case kt_Keeper__half => k_is); (case kt_Keeper__knows => k_is); (case a0 => k_is); (case l0 => k_is); (case e0 => k_is); (case k0 => k_is); (case a1 => k_is); (case l1 => k_is); (case e1 => k_is); (case k1 => k_is); (case a2 => k_is); (case l2 => k_is); (case e2 => k_is); (case k2 => k_is); (case a3 => k_is); (case l3 => k_is); (case e3 => k_is); (case k3 => k_is); (case a4 => k_is); (case l4 => k_is); (case e4 => k_is); (case k4 => k_is); (case a5 => k_is); (case l5 => k_is); (case e5 => k_is); (case k5 => k_is); (case a6 => k_is); (case l6 => k_is); (case e6 => k_is); (case k6 => k_is); (case a7 => k_is); (case l7 => k_is); (case e7 => k_is); (case k7 => k_is); (case a8 => k_is); (case l8 => k_is); (case e8 => k_is); (case k8 => k_is); (case a9 => k_is); (case l9 => k_is); (case e9 => k_is); (case k9 => k_is); (case a10 => k_is); (case l10 => k_is); (case e10 => k_is); (case k10 => k_is); (case l11 => k_is); (case e11 => k_is); (case k11 => k_is); (case l12 => k_is); (case e12 => k_is); (case k12 => k_is); (case l13 => k_is); (case e13 => k_is); (case k13 => k_is); (case l14 => k_is); (case e14 => k_is); (case k14 => k_is); (case l15 => k_is); (case e15 => k_is); (case k15 => k_is); (case l16 => k_is); (case e16 => k_is); (case k16 => k_is); (case l17 => k_is); (case e17 => k_is); (case k17 => k_is); (case l18 => k_is); (case e18 => k_is); (case k18 => k_is); (case l19 => k_is); (case e19 => k_is); (case k19 => k_is); (case l20 => k_is); (case e20 => k_is); (case k20 => k_is); (case l21 => k_is); (case e21 => k_is); (case k21 => k_is); (case l22 => k_is); (case e22 => k_is); (case k22 => k_is); (case a23 => k_is); (case l23 => k_is); (case e23 => k_is); (case k23 => k_is); (case a24 => k_is); (case l24 => k_is); (case e24 => k_is); (case k24 => k_is); (case a25 => k_is); (case l25 => k_is); (case e25 => k_is); (case k25 => k_is); (case a26 => k_is); (case l26 => k_is); (case e26 => k_is); (case k26 => k_is); (case a27 => k_is); (case l27 => k_is); (case e27 => k_is); (case k27 => k_is); (case l28 => k_is); (case e28 => k_is); (case k28 => k_is); (case a29 => k_is); (case l29 => k_is); (case e29 => k_is); (case k29 => k_is); (case a30 => k_is); (case l30 => k_is); (case e30 => k_is); (case k30 => k_is); (case l31 => k_is); (case e31 => k_is); (case k31 => k_is); (case a32 => k_is); (case l32 => k_is); (case e32 => k_is); (case k32 => k_is); (case kp0_Keeper => k_is); (case kp1_Keeper => k_is); (case kp2_Keeper => k_is); (case kp3_Keeper => k_is); (case km0_Keeper => k_is); (case km3_Keeper => k_is); (case kn_Keeper_names_told => k_is); (case kn_Keeper_kept => k_is); (case kn_Keeper_next_number => k_is); (case kn_Keeper_deeds => k_is); (case kn_Keeper_undone => k_is); (case ku_Keeper____init__ => k_is); (case ku_Keeper__ask_names => k_is); (case ku_Keeper__numbers => k_is); (case ku_Keeper__lead => k_is); (case ku_Keeper__lay => k_is); (case ku_Keeper__lift => k_is); (case ku_Keeper__do => k_is); (case ku_Keeper__say => k_is); (case ku_Keeper__saying => k_is); (case ku_Keeper__take => k_is); (case ku_Keeper__undo => k_is); (case ku_Keeper__redo => k_is); (case ku_Keeper__half => k_is); (case ku_Keeper__knows => k_is); (case ac_Clash => k_is); (case ac_HalfError => k_is); (case ac_NoBound => k_is); (case ac_NoCover => k_is); (case ac_NoHalf => k_is); (case ac_NoJoin => k_is); (case ac_NoMore => k_is); (case ac_NoName => k_is); (case ac_NoOrder => k_is); (case ac_NoPaper => k_is); (case ac_NoPlace => k_is); (case ac_NoPlan => k_is); (case ac_NoSaying => k_is); (case ac_NoText => k_is); (case ac_TooMany => k_is); (case xl_Clash => k_is); (case sa_Clash => k_is); (case i1_Clash => k_is); (case t1_Clash => k_is); (case l1_Clash => k_is); (case c1_Clash => k_is); (case kk_Clash => k_is); (case nf_Clash_way => k_is); (case ga_Clash => k_is); (case gg_Clash => k_is); (case cl_Clash => k_is); (case kp_Clash => k_is); (case eb_Clash => k_is); (case ty_Clash => k_is); (case hd_Clash => k_is); (case mo_Clash => k_is); (case sh_Clash_HalfError => k_is); (case xl_NoName => k_is); (case sa_NoName => k_is); (case i1_NoName => k_is); (case t1_NoName => k_is); (case l1_NoName => k_is); (case c1_NoName => k_is); (case kk_NoName => k_is); (case nf_NoName_name => k_is); (case ga_NoName => k_is); (case gg_NoName => k_is); (case cl_NoName => k_is); (case kp_NoName => k_is); (case eb_NoName => k_is); (case ty_NoName => k_is); (case hd_NoName => k_is); (case mo_NoName => k_is); (case sh_NoName_HalfError => k_is); (case xl_NoSaying => k_is); (case sa_NoSaying => k_is); (case i1_NoSaying => k_is); (case t1_NoSaying => k_is); (case l1_NoSaying => k_is); (case c1_NoSaying => k_is); (case kk_NoSaying => k_is); (case nf_NoSaying_number => k_is); (case ga_NoSaying => k_is); (case gg_NoSaying => k_is); (case cl_NoSaying => k_is); (case kp_NoSaying => k_is); (case eb_NoSaying => k_is); (case ty_NoSaying => k_is); (case hd_NoSaying => k_is); (case mo_NoSaying => k_is); (case sh_NoSaying_HalfError => k_is); (case xl_TooMany => k_is); (case sa_TooMany => k_is); (case i1_TooMany => k_is); (case t1_TooMany => k_is); (case l1_TooMany => k_is); (case c1_TooMany => k_is); (case kk_TooMany => k_is); (case nf_TooMany_word => k_is); (case ga_TooMany => k_is); (case gg_TooMany => k_is); (case cl_TooMany => k_is); (case kp_TooMany => k_is); (case eb_TooMany => k_is); (case ty_TooMany => k_is); (case hd_TooMany => k_is); (case mo_TooMany => k_is); (case sh_TooMany_HalfError => k_is); (case xq_NoMore => k_exc); (case ga_NoMore => k_is); (case gg_NoMore => k_is); (case cl_NoMore => k_is); (case kp_NoMore => k_is); (case eb_NoMore => k_is); (case ty_NoMore => k_is); (case hd_NoMore => k_is); (case mo_NoMore => k_is); (case sh_NoMore_HalfError => k_is); (case sg0 => k_is); (case tk0 => k_is); (case eh_HalfError => k_is); (case hh_HalfError => k_is); (case th_HalfError => k_is); (case rd_HalfError => k_is); (case sp_HalfError => k_is); (case vv_HalfError => k_is); (case ko_Clash_Clash => kit_is); (case ko_Clash_NoBound => kit_is); (case ko_Clash_NoCover => kit_is); (case ko_Clash_NoHalf => kit_is); (case ko_Clash_NoJoin => kit_is); (case ko_Clash_NoMore => kit_is); (case ko_Clash_NoName => kit_is); (case ko_Clash_NoOrder => kit_is); (case ko_Clash_NoPaper => kit_is); (case ko_Clash_NoPlace => kit_is); (case ko_Clash_NoPlan => kit_is); (case ko_Clash_NoSaying => kit_is); (case ko_Clash_NoText => kit_is); (case ko_Clash_TooMany => kit_is); (case ko_Clash_ValueError => kit_is); (case ko_NoMore_Clash => kit_is); (case ko_NoMore_NoBound => kit_is); (case ko_NoMore_NoCover => kit_is); (case ko_NoMore_NoHalf => kit_is); (case ko_NoMore_NoJoin => kit_is); (case ko_NoMore_NoMore => kit_is); (case ko_NoMore_NoName => kit_is); (case ko_NoMore_NoOrder => kit_is); (case ko_NoMore_NoPaper => kit_is); (case ko_NoMore_NoPlace => kit_is); (case ko_NoMore_NoPlan => kit_is); (case ko_NoMore_NoSaying => kit_is); (case ko_NoMore_NoText => kit_is); (case ko_NoMore_TooMany => kit_is); (case ko_NoMore_ValueError => kit_is); (case ko_NoName_Clash => kit_is); (case ko_NoName_NoBound => kit_is); (case ko_NoName_NoCover => kit_is); (case ko_NoName_NoHalf => kit_is); (case ko_NoName_NoJoin => kit_is); (case ko_NoName_NoMore => kit_is); (case ko_NoName_NoName => kit_is); (case ko_NoName_NoOrder => kit_is); (case ko_NoName_NoPaper => kit_is); (case ko_NoName_NoPlace => kit_is); (case ko_NoName_NoPlan => kit_is); (case ko_NoName_NoSaying => kit_is); (case ko_NoName_NoText => kit_is); (case ko_NoName_TooMany => kit_is); (case ko_NoName_ValueError => kit_is); (case ko_NoSaying_Clash => kit_is); (case ko_NoSaying_NoBound => kit_is); (case ko_NoSaying_NoCover => kit_is); (case ko_NoSaying_NoHalf => kit_is); (case ko_NoSaying_NoJoin => kit_is); (case ko_NoSaying_NoMore => kit_is); (case ko_NoSaying_NoName => kit_is); (case ko_NoSaying_NoOrder => kit_is); (case ko_NoSaying_NoPaper => kit_is); (case ko_NoSaying_NoPlace => kit_is); (case ko_NoSaying_NoPlan => kit_is); (case ko_NoSaying_NoSaying => kit_is); (case ko_NoSaying_NoText => kit_is); (case ko_NoSaying_TooMany => kit_is); (case ko_NoSaying_ValueError => kit_is); (case ko_TooMany_Clash => kit_is); (case ko_TooMany_NoBound => kit_is); (case ko_TooMany_NoCover => kit_is); (case ko_TooMany_NoHalf => kit_is); (case ko_TooMany_NoJoin => kit_is); (case ko_TooMany_NoMore => kit_is); (case ko_TooMany_NoName => kit_is); (case ko_TooMany_NoOrder => kit_is); (case ko_TooMany_NoPaper => kit_is); (case ko_TooMany_NoPlace => kit_is); (case ko_TooMany_NoPlan => kit_is); (case ko_TooMany_NoSaying => kit_is); (case ko_TooMany_NoText => kit_is); (case ko_TooMany_TooMany => kit_is); (case ko_TooMany_ValueError => kit_is); (case z_ValueError => k_is); (case z_all => k_is); (case z_bool => k_is); (case z_enumerate => k_is); (case z_int => k_is); (case z_isinstance => k_is); (case z_len => k_is); (case z_list => k_is); (case z_range => k_is); (case z_repr => k_is); (case z_set => k_is); (case z_sorted => k_is); (case z_str => k_is); (case z_tuple => k_is); (case q_LETTERS => k_is); (case q_LONGEST => k_is); (case q_MOST_NAMES => k_is); (case q_MOST_SAYINGS_halves => k_is); (case q_MOST_SAYINGS_keeping => k_is)
