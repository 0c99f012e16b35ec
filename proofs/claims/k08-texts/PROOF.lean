import PyProof.Rows.All
import Wide.All
import OpenK.AllK
import Wide.FinOn
import HandS.ForMost
import HandS.Walk
import HandS.TupAny
import HandS.TupMul
import HandS.WideBits
import HandS.IsInst
import HandS.Defaults
import HandS.HeadHook1
import HandS.Flow
import HandS.Text
import PyProof.P3In
import PyProof.ReprRoads
import HandS.Star
import HandS.StrMore
import HandS.FStr
import HandS.Zip
import HandS.TupLe
import PyProof.CallFns
import PyProof.NoPylong
import HandS.RaiseMore
import KE.GoesNew
import KE.GoesEnumKw
import HandS.Rev
import HandS.Style
import HandS.HeadEnd
import HandS.Words
import HandS.Exc
import PyProof.FitsInt
import HandS.Property
import HandS.ClsMeth
import PyProof.InstEq
import KE.KCallOwn
import PyProof.DictCopy
import PyProof.DictUpdate
import HandS.Dict
import HandS.DictComp
import HandS.OwnEq
import HandS.HeadNt
import KE.KStateDown
import HandS.Head0
import HandS.Head1
import HandS.Head2
import HandS.HeadHook2
import HandS.HeadHook4
import HandS.Strs
import PyProof.Conv_bool
import PyProof.StrLawsAffix
import PyProof.StrLawsRepr
import PySem.Challenge.RW_tallypeaks_k08_texts_written_and_read
set_option Elab.async false
set_option linter.all false
set_option maxRecDepth 100000
set_option maxHeartbeats 4100000
set_option maxHeartbeats 8000000
/-! DN: tuples that bear no dict of their own: how they come to be, told with the object itself. -/
namespace D
open PySem PySem.Spec PyProof.Rows HT L2
/-- a tuple without a dict that is read: frozen, or of the module -/
def SqN (K : PySem.W.Frag) (H : Hp) (a : Addr) (xs : List V) : Prop :=
  (∃ o : Obj, o.dict = none ∧ H a = some (.frz o (.tup xs))) ∨
    ∃ (o : Obj) (its : Array Value) (n : Nat), K.lookup a = some o ∧ (o.cls = .type "tuple" ∧ o.dict = none) ∧ o.data = .seq its n ∧ its.size ≤ sizeLine ∧ Vals xs its.toList
section
variable {K : PySem.W.Frag} {H : Hp} {a : Addr} {xs : List V}
theorem SqN.sqt (h : SqN K H a xs) : SqT K H a xs := by
  rcases h with ⟨o, _, e⟩ | ⟨o, its, n, h1, h2, h3⟩
  · exact .inl (.inr ⟨o, e⟩)
  · exact .inr ⟨o, its, n, h1, h2.1, h3⟩
theorem SqN.of {o : Obj} (hd : o.dict = none) (e : H a = some (.frz o (.tup xs))) : SqN K H a xs := .inl ⟨o, hd, e⟩
end
/-- a new tuple is handed on -/
abbrev NewT (H : Hp) (xs : List V) (Q : VK) : Prop := ∀ (p : Addr) (o : Obj), H p = none → o.dict = none → Q (.ref p) (upd H p (.frz o (.tup xs)))
section
variable {X : Cx} {σ : L2.St} {pins : List (Addr × Obj)} {s : Shared} {H : Hp}
theorem laidN {its : List Value} {xs : List V} {t' : Nat} (I : L2.Inv X pins σ H s) (r : Vals xs its) (hz : xs.length ≤ sizeLine) :
    L2.Inv X pins σ (upd H s.heap.objs.size (.frz { cls := .type "tuple", data := .seq its.toArray } (.tup xs))) { s with heap := s.heap.push { cls := .type "tuple", data := .seq its.toArray }, toks := t' } :=
  I.laid (fun b ob q => Heap.get?_push_of_some _ q) (Nat.le_refl _) ⟨Heap.get?_push_size _ rfl, hz, its, r, IsTup.new _ _⟩
theorem newT {its : List Value} {xs : List V} {t' : Nat} {Q : VK} (I : L2.Inv X pins σ H s) (r : Vals xs its) (hz : xs.length ≤ sizeLine) (q : NewT H xs Q) :
    EP X pins σ Q (.ref s.heap.objs.size) { s with heap := s.heap.push { cls := .type "tuple", data := .seq its.toArray }, toks := t' } :=
  ⟨.ref s.heap.objs.size, _, laidN I r hz, rfl, q _ _ (I.hok.fresh (Nat.le_refl _)) rfl⟩
end
/-! ### a display -/
def tTupN (t : TA) : TE := fun σ H Q => t σ H fun xs H1 => xs.length ≤ sizeLine ∧ NewT H1 xs Q
section
variable {X : Cx} {e : Expr} {es : List Expr} {t : TA} {pos : Pos}
theorem pe_tupN {x1} (h : PA X es t) : PE X (.Tuple es x1 pos) (tTupN t) := by
  refine ⟨fun pins s σ H Q I hq => ?_⟩; refine wpAny_Tuple_spliced (thn (h.run pos pins s σ H _ I hq) fun us s1 ⟨xs, H1, I1, r, z, q⟩ => ⟨(by rw [← r.length]; exact z), newT (t' := s1.toks) I1 r z q⟩)
end
section
variable {X : Cx}
/-! ### t + u -/
def rCatN (K : PySem.W.Frag) : R2 := fun x y H Q => ∃ a b xs ys, x = .ref a ∧ y = .ref b ∧ (SqT K H a xs ∧ SqT K H b ys) ∧ xs.length + ys.length ≤ sizeLine ∧
  (xs = [] → Q (.ref b) H) ∧ (xs ≠ [] → ys = [] → Q (.ref a) H) ∧ (xs ≠ [] → ys ≠ [] → NewT H (xs ++ ys) Q)
theorem op_catN : OpR X (binaryOp .Add) (rCatN X.K) := by
  intro pins s σ H x y v u Q I rx ry h; obtain ⟨a, b, xs, ys, rfl, rfl, ⟨ha, hb⟩, hz, q0, q1, q2⟩ := h
  cases rx; cases ry
  obtain ⟨its, r1, p1, _⟩ := I.tuple ha; obtain ⟨its2, r2, p2, _⟩ := I.tuple hb
  by_cases hx : xs = []
  · subst hx
    cases r1
    exact (cat_tup0 p1 p2 ⟨.ref b, H, I, rfl, q0 rfl⟩)
  · refine cat_tup p1 p2 (fun z => hx (r1.nil_iff.mp z)) (fun z => ⟨.ref a, H, I, rfl, q1 hx (r2.nil_iff.mp z)⟩) (fun z => ?_) (by rw [← r1.length, ← r2.length]; exact hz)
    exact newT (t' := s.toks) I (r1.append r2) (by rw [List.length_append]; exact hz) (q2 hx fun w => z (r2.nil_iff.mpr w))
/-! ### t[lo:hi] -/
def rSlN (K : PySem.W.Frag) : V → Option Int → Option Int → Hp → VK → Prop := fun x lo hi H Q => ∃ a xs, (x = .ref a ∧ SqT K H a xs) ∧
  ((sIx xs.length 0 lo = 0 ∧ sIx xs.length xs.length hi = xs.length) → Q (.ref a) H) ∧ (¬ (sIx xs.length 0 lo = 0 ∧ sIx xs.length xs.length hi = xs.length) → NewT H (cutV xs lo hi) Q)
theorem sl_tupN : SlR X (rSlN X.K) := by
  intro pins s σ H x v vl vu lo hi sl Q I rx hs pl pu h; obtain ⟨a, xs, ⟨rfl, hx⟩, q1, q2⟩ := h
  cases rx
  obtain ⟨its, r, ht, hz⟩ := I.tuple hx; have hn : its.toArray.size = xs.length := by rw [List.size_toArray]; exact r.length.symm
  refine ⟨"tuple", _, PyProof.Rows.slot_tuple_getitem.lookup, ht.typeIs, ?_⟩; by_cases hw : sIx xs.length 0 lo = 0 ∧ sIx xs.length xs.length hi = xs.length
  · exact getItem_tuple_whole ht hs pl pu (by rw [hn]; exact hw) ⟨.ref a, H, I, rfl, q1 hw⟩
  · refine getItem_tuple_cut ht hs pl pu (by rw [hn]; exact hw) ?_ (by rw [hn]; exact hz)
    rw [hn]
    exact newT (t' := s.toks) I ((r.drop (sIx xs.length 0 lo)).take (sIx xs.length xs.length hi - sIx xs.length 0 lo)) (Nat.le_trans (cutV_length xs lo hi) hz) (q2 hw)
/-! ### tuple(..), divmod -/
theorem call_tupleN : CallR X (.type "tuple") (fun xs H Q => ∃ p ys, xs = [.ref p] ∧ ((SqL X.K H p ys ∧ NewT H ys Q) ∨ (SqT X.K H p ys ∧ Q (.ref p) H))) := by
  intro pins s σ H xs us Q I r h; obtain ⟨p, ys, rfl, h⟩ := h
  obtain ⟨u, rfl, rx⟩ := vals1 r; cases rx
  rcases (h) with ⟨hq, q⟩ | ⟨hq, q⟩
  · obtain ⟨its, r', pl, hz⟩ := I.list hq; have hlen := r'.length
    refine call_tuple_list pl.isList (fun h' kp => ?_) (by simp only [List.size_toArray] <;> omega); have I1 : L2.Inv X pins σ H { s with heap := h' } := I.kept (t' := s.toks) kp
    exact newT (t' := s.toks) I1 r' hz q
  · obtain ⟨its, r', pl, hz⟩ := I.tuple hq; exact call_tuple_same pl ⟨.ref p, H, I, rfl, q⟩
theorem call_divmodN : CallR X (.builtin "divmod") (fun xs H Q => ∃ i j, xs = [.int i, .int j] ∧ CDivP i j ∧ NewT H [.int (i / j), .int (i % j)] Q) := by
  intro pins s σ H xs us Q I r h; obtain ⟨i, j, rfl, ⟨h1, h2⟩, q⟩ := h
  obtain ⟨u, w', rfl, ⟨t, rfl⟩, ⟨t', rfl⟩⟩ := vals2 r; refine divmod_int (by omega) ?_ (.inl h2)
  rw [Int.fdiv_eq_ediv_of_nonneg i (by omega), Int.fmod_eq_emod_of_nonneg i (by omega)]; exact newT (its := [.int (i / j) s.toks, .int (i % j) (s.toks + 1)]) (xs := [.int (i / j), .int (i % j)]) I (.cons ⟨_, rfl⟩ (.cons ⟨_, rfl⟩ .nil)) (by rw [sizeLine_eq]; show (2 : Nat) ≤ _; decide) q
/-! ### t * k -/
def rRepN (K : PySem.W.Frag) : R2 := fun x y H Q => ∃ l k xs, (x = .ref l ∧ y = .int k) ∧ SqT K H l xs ∧ xs ≠ [] ∧ (2 ≤ k ∧ k ≤ 1000) ∧ xs.length ≤ 1000 ∧ NewT H (List.replicate k.toNat xs).flatten Q
theorem op_repN : OpR X (binaryOp .Mult) (rRepN X.K) := by
  intro pins s σ H x y v u Q I rx ry h; obtain ⟨l, k, xs, ⟨rfl, rfl⟩, hT, hne, ⟨k2, k9⟩, hz, q⟩ := h
  cases rx; obtain ⟨t, rfl⟩ := ry
  obtain ⟨its, r, ⟨⟨cls, dd, data, sl⟩, ho, hc, n, hd⟩, hs⟩ := I.tuple hT; simp only at hc hd
  subst hc hd
  have hle : its.length = xs.length := r.length.symm; have hn : its ≠ [] := fun e => hne (List.eq_nil_of_length_eq_zero (by rw [← hle, e]; rfl))
  have hi : its.toArray.isEmpty = false := by cases its <;> first | exact absurd rfl hn | rfl
  have sz0 : its.toArray.size = xs.length := (List.size_toArray ..).trans hle
  have nat : ((its.toArray.size : Nat) : Int) * k ≤ 1000000 := by
    have a1 : ((xs.length : Nat) : Int) * k ≤ 1000 * k := Int.mul_le_mul_of_nonneg_right (by omega) (by omega); rw [sz0]; omega
  have a2 : k.toNat * xs.length ≤ 1000 * 1000 := Nat.mul_le_mul (by omega) hz
  have big : (List.replicate k.toNat its).flatten.length ≤ sizeLine := by
    rw [PyProof.Rows.lm_len_rep_flat, hle, sizeLine_eq]; omega
  have b0 : (decide (k < -(2 ^ 63)) || decide (k ≥ 2 ^ 63)) = false := by
    rw [Bool.or_eq_false_iff]; exact ⟨decide_eq_false (by omega), decide_eq_false (by omega)⟩
  have b1 : (its.toArray.isEmpty || k == 1) = false := by
    rw [hi, Bool.false_or]; exact beq_eq_false_iff_ne.mpr (by omega)
  have b2 : (decide (k ≤ 0) || its.toArray.isEmpty) = false := by
    rw [hi, Bool.or_false]; exact decide_eq_false (by omega)
  have b4 : Builtin.Tuple.tupleTooMany (((its.toArray.size : Nat) : Int) * k) = false := by
    unfold Builtin.Tuple.tupleTooMany; rw [sizeLine_eq]; exact decide_eq_false (by omega)
  refine wpAny_binaryOp_repeat_ref (T := "tuple") (U := "int") (by decide) ⟨_, ho, rfl⟩ (fun s' => typeIs_int s' k t) noFill_tuple_mul F.fills_int_mul F.slot_int_rmul repeat_tuple F.slot_int_index.lookup (call_meets F.slot_int_rmul (typeIs_int s k t) F.entry_int_rmul (F.args_int_rmul_2 _ _) (int_rmul_tuple k t l its.toArray n dd sl) ⟨ho, rfl, ⟨_, ho, rfl⟩,
    call_meets F.slot_tuple_mul ⟨_, ho, rfl⟩ F.entry_tuple_mul (F.args_tuple_mul_2 _ _) (tuple_mulW l its.toArray n dd sl k t b0 b1 b2 (by omega) b4 (by rw [size_rep, List.size_toArray]; exact big)) ⟨ho, ?_⟩⟩)
  rw [size_rep]
  exact newT (t' := s.toks) I (r.rep k.toNat) (by rw [PyProof.Rows.lm_len_rep_flat, sizeLine_eq]; omega) q
/-! ### a method of a tuple -/
theorem SqN.is {p : Addr} {ys : List V} {pins : List (Addr × Obj)} {σ : L2.St} {H : Hp} {s : Shared} (I : L2.Inv X pins σ H s) (h : SqN X.K H p ys) : s.TypeIs (.ref p) "tuple" ∧ ∀ a, Value.ref p = .ref a → ∃ ob, s.heap.get? a = some ob ∧ ob.dict = none := by
  rcases h with ⟨o, hd, e⟩ | ⟨o, its, n, h1, h2, _⟩
  · obtain ⟨e1, e2⟩ := I.hok p _ e
    obtain ⟨_, its, _, o', e3, hc, _⟩ := e2
    rw [e1] at e3
    cases e3
    exact ⟨⟨o, e1, hc⟩, fun a z => by cases z; exact ⟨o, e1, hd⟩⟩
  · have e1 := I.kIn p o h1
    exact ⟨⟨o, e1, h2.1⟩, fun a z => by cases z; exact ⟨o, e1, h2.2⟩⟩
section
variable {o e : Expr} {es : List Expr} {to : TE} {t : TA} {name : Str} {apos cpos : Pos} {id : String} {r : V → List V → Hp → VK → Prop}
def tTM (K : PySem.W.Frag) (r : V → List V → Hp → VK → Prop) (to : TE) (t : TA) : TE := fun σ H Q => to σ H fun x H1 => (∃ p ys, x = .ref p ∧ SqN K H1 p ys) ∧ t σ H1 fun xs H2 => r x xs H2 Q
/-- t.m(..) -/
theorem pe_tm (slot : Slot "tuple" name id) (hty : typeOf (.builtin id) = pure (.type "method_descriptor")) (hm : MtR X id r) (ho : PE X o to) (ha : PA X (e :: es) t)
    (hbase : attributeBase o name X.env (eval o X.env) = eval o X.env := by rfl) (hfew : ((backTo cpos (starEach (e :: es) X.env)).all (fun x => !x.1) && (backToKw cpos (keywordEach [] X.env)).all (fun x => x.1.isSome) && decide ((e :: es).length + ([] : List Keyword).length + (if ([] : List Keyword).isEmpty then 0 else 1) < 30)) = true := by rfl) (hline : (apos.endLine == cpos.line) = true := by rfl) (hs : starEach (e :: es) X.env = (false, eval e X.env) :: starEach es X.env := by rfl) (hplain : (backTo cpos (starEach es X.env)).any (·.1) = false := by rfl) :
    PE X (.Call (.Attribute o name apos) (e :: es) [] cpos) (tTM X.K r to t) := by
  refine ⟨fun pins s σ H Q I h => ?_⟩; refine wpAny_Call_method_late hbase hfew hline rfl (thn (ho.run pins s σ H _ I h) fun v s1 ⟨x, H1, I1, r1, ⟨p, ys, ex, hq⟩, q1⟩ => ?_)
  subst ex
  cases r1
  obtain ⟨k1, k2⟩ := hq.is I1
  refine ⟨"tuple", id, PySem.F.plainAttrs_tuple, slot, hty, k1, k2, ?_⟩
  have hA := ha.run cpos pins s1 σ H1 _ I1 q1; rw [hs] at hA ⊢
  exact Calls.callWith_builtin (by show (false || (backTo cpos (starEach es X.env)).any (·.1)) = false; rw [hplain] <;> rfl) (Calls.evalArgs_plain (thn hA fun us s2 ⟨vs, H2, I2, r2, q2⟩ => hm pins s2 σ H2 (.ref p) vs _ us Q I2 rfl r2 q2))
end
end
end D
/-! D0: deep values by tree, the store, the relation to HandS's slots and abstract heap. -/
namespace D
open PySem PySem.Spec L2

/-- a value as a tree; ref: an object that may change (the store tells it) -/
inductive P where
  | non | bl (b : Bool) | int (i : Int) | str (s : Str) | ty (n : String) | ref (a : Addr)
  | tup (xs : List P) | row (xs : List P) | lst (xs : List P) | scr (xs : List P) | dct (kvs : List (P × P)) | ins (n : Str) (fs : List (Str × P)) | cl (n : Str)
/-- what stands at an address that may change -/
inductive SO where
  | lst (xs : List P) | dct (kvs : List (P × P)) | ins (n : Str) (fs : List (Str × P)) | set (xs : List P)
abbrev Store := Addr → Option SO
def ups (S : Store) (a : Addr) (o : SO) : Store := fun b => if b = a then some o else S b
theorem ups_same {S : Store} {a : Addr} {o : SO} : ups S a o a = some o := if_pos rfl
theorem ups_ne {S : Store} {a b : Addr} {o : SO} (h : b ≠ a) : ups S a o b = S b := if_neg h
theorem ups_ups {S : Store} {a : Addr} {o u : SO} : ups (ups S a o) a u = ups S a u := by
  funext b; unfold ups; split <;> rfl
/-- a slot: nothing, a value, an object of the slot's own -/
inductive Sl where
  | un | v (p : P) | own (o : SO)
abbrev Env := List Sl
/-- what an expression gives: a value, or the object that slot i owns -/
inductive R where
  | v (p : P) | loc (i : Nat)
/-- the fixed part: the written part, the world, the callers' objects, the entry's frozen ones -/
structure Gm where
  K : PySem.W.Frag
  w : World
  F : Hp
  I0 : Hp
def Le (I J : Hp) : Prop := ∀ a o, I a = some o → J a = some o
theorem Le.refl {I : Hp} : Le I I := fun _ _ h => h
theorem Le.trans {I J L : Hp} (h : Le I J) (k : Le J L) : Le I L := fun a o e => k a o (h a o e)
theorem Le.upd {I : Hp} {p : Addr} {o : HO} (h : I p = none) : Le I (upd I p o) := fun a u e => by
  rw [upd_ne (ne_of_none e h)]; exact e
theorem Le.rd {I J : Hp} (h : Le I J) {a : Addr} {u : HO} (r : Rd I a u) : Rd J a u := by
  rcases r with r | ⟨o, r⟩
  · exact .inl (h a _ r)
  · exact .inr ⟨o, h a _ r⟩
theorem Le.sqt {K : PySem.W.Frag} {I J : Hp} (h : Le I J) {a : Addr} {xs : List V} (r : SqT K I a xs) : SqT K J a xs := r.imp h.rd id
theorem Le.sqn {K : PySem.W.Frag} {I J : Hp} (h : Le I J) {a : Addr} {xs : List V} (r : SqN K I a xs) : SqN K J a xs := r.imp (fun ⟨o, hd, e⟩ => ⟨o, hd, h a _ e⟩) id
theorem Le.sql {K : PySem.W.Frag} {I J : Hp} (h : Le I J) {a : Addr} {xs : List V} (r : SqL K I a xs) : SqL K J a xs := r.imp h.rd id

/-- what the module's name n stands for: a class -/
abbrev cA (K : PySem.W.Frag) (n : Str) : Addr := He.ga K n
/-- a key of a dict -/
def RK : P → Key → Prop
  | .int i, k => k = .inl i
  | .str s, k => k = .inr s ∧ s.length ≤ sizeLine ∧ PyData.strOk s = true
  | _, _ => False
mutual
/-- the tree p stands for the value x, by the frozen part I -/
def RP (G : Gm) (I : Hp) : P → V → Prop
  | .non, x => x = .non
  | .bl b, x => x = .bl b
  | .int i, x => x = .int i
  | .str s, x => x = .str s ∧ s.length ≤ sizeLine ∧ PyData.strOk s = true
  | .ty n, x => x = .ty n
  | .ref a, x => x = .ref a
  | .tup ps, x => ∃ a vs, x = .ref a ∧ SqN G.K I a vs ∧ RPs G I ps vs
  | .row ps, x => ∃ a vs, x = .ref a ∧ SqT G.K I a vs ∧ RPs G I ps vs
  | .lst ps, x => ∃ a vs, x = .ref a ∧ I a = some (.lst vs) ∧ RPs G I ps vs
  | .scr ps, x => ∃ a vs, x = .ref a ∧ SqL G.K I a vs ∧ RPs G I ps vs
  | .dct kvs, x => ∃ a ds, x = .ref a ∧ I a = some (.dK ds) ∧ RDs G I kvs ds
  | .ins n fs, x => ∃ a dx gs, x = .ref a ∧ I a = some (.ins (cA G.K n) dx gs) ∧ RFs G I fs gs
  | .cl n, x => x = .ref (cA G.K n)
def RPs (G : Gm) (I : Hp) : List P → List V → Prop
  | [], vs => vs = []
  | p :: ps, vs => ∃ x r, vs = x :: r ∧ RP G I p x ∧ RPs G I ps r
def RFs (G : Gm) (I : Hp) : List (Str × P) → List (Str × V) → Prop
  | [], gs => gs = []
  | (f, p) :: ps, gs => ∃ x r, gs = (f, x) :: r ∧ RP G I p x ∧ RFs G I ps r
def RDs (G : Gm) (I : Hp) : List (P × P) → List (Key × V) → Prop
  | [], ds => ds = []
  | (k, p) :: ps, ds => ∃ c x r, ds = (c, x) :: r ∧ RK k c ∧ RP G I p x ∧ RDs G I ps r
end
section
variable {G : Gm} {I J : Hp}
mutual
theorem RP.mono (h : Le I J) : ∀ (p : P) (x : V), RP G I p x → RP G J p x
  | .non, _, r => r
  | .bl _, _, r => r
  | .int _, _, r => r
  | .str _, _, r => r
  | .ty _, _, r => r
  | .ref _, _, r => r
  | .tup ps, _, ⟨a, vs, e, s, r⟩ => ⟨a, vs, e, h.sqn s, RPs.mono h ps vs r⟩
  | .row ps, _, ⟨a, vs, e, s, r⟩ => ⟨a, vs, e, h.sqt s, RPs.mono h ps vs r⟩
  | .lst ps, _, ⟨a, vs, e, s, r⟩ => ⟨a, vs, e, h _ _ s, RPs.mono h ps vs r⟩
  | .scr ps, _, ⟨a, vs, e, s, r⟩ => ⟨a, vs, e, h.sql s, RPs.mono h ps vs r⟩
  | .dct kvs, _, ⟨a, ds, e, s, r⟩ => ⟨a, ds, e, h _ _ s, RDs.mono h kvs ds r⟩
  | .ins _ fs, _, ⟨a, dx, gs, e, s, r⟩ => ⟨a, dx, gs, e, h _ _ s, RFs.mono h fs gs r⟩
  | .cl _, _, r => r
theorem RPs.mono (h : Le I J) : ∀ (ps : List P) (vs : List V), RPs G I ps vs → RPs G J ps vs
  | [], _, r => r
  | p :: ps, _, ⟨x, q, e, r, t⟩ => ⟨x, q, e, RP.mono h p x r, RPs.mono h ps q t⟩
theorem RFs.mono (h : Le I J) : ∀ (ps : List (Str × P)) (gs : List (Str × V)), RFs G I ps gs → RFs G J ps gs
  | [], _, r => r
  | (_, p) :: ps, _, ⟨x, q, e, r, t⟩ => ⟨x, q, e, RP.mono h p x r, RFs.mono h ps q t⟩
theorem RDs.mono (h : Le I J) : ∀ (ps : List (P × P)) (ds : List (Key × V)), RDs G I ps ds → RDs G J ps ds
  | [], _, r => r
  | (_, p) :: ps, _, ⟨c, x, q, e, k, r, t⟩ => ⟨c, x, q, e, k, RP.mono h p x r, RDs.mono h ps q t⟩
end
theorem RP.mkI {i : Int} : RP G I (.int i) (.int i) := rfl
theorem RP.mkB {b : Bool} : RP G I (.bl b) (.bl b) := rfl
theorem RP.mkN : RP G I .non .non := rfl
theorem RP.mkS {s : Str} (h : s.length ≤ sizeLine) (k : PyData.strOk s = true) : RP G I (.str s) (.str s) := ⟨rfl, h, k⟩
theorem RP.mkT {a : Addr} {o : Obj} {vs : List V} {ps : List P} (hd : o.dict = none) (h : I a = some (.frz o (.tup vs))) (t : RPs G I ps vs) : RP G I (.tup ps) (.ref a) := ⟨a, vs, rfl, SqN.of hd h, t⟩
theorem RP.mkR {a : Addr} {vs : List V} {ps : List P} (h : I a = some (.tup vs)) (t : RPs G I ps vs) : RP G I (.row ps) (.ref a) := ⟨a, vs, rfl, SqT.of h, t⟩
theorem RP.mkL {a : Addr} {vs : List V} {ps : List P} (h : I a = some (.lst vs)) (t : RPs G I ps vs) : RP G I (.lst ps) (.ref a) := ⟨a, vs, rfl, h, t⟩
theorem RPs.length : ∀ {ps : List P} {vs : List V}, RPs G I ps vs → ps.length = vs.length
  | [], _, r => by cases r; rfl
  | _ :: _, _, ⟨_, _, e, _, t⟩ => by subst e; exact congrArg Nat.succ (RPs.length t)
theorem RPs.append : ∀ {ps qs : List P} {vs ws : List V}, RPs G I ps vs → RPs G I qs ws → RPs G I (ps ++ qs) (vs ++ ws)
  | [], _, _, _, r, t => by cases r; exact t
  | _ :: _, _, _, _, ⟨x, q, e, r, t⟩, u => by subst e; exact ⟨x, _, rfl, r, RPs.append t u⟩
theorem RPs.take : ∀ {ps : List P} {vs : List V} (n : Nat), RPs G I ps vs → RPs G I (ps.take n) (vs.take n)
  | _, _, 0, _ => rfl
  | [], _, _ + 1, r => by cases r; rfl
  | _ :: _, _, n + 1, ⟨x, q, e, r, t⟩ => by subst e; exact ⟨x, _, rfl, r, RPs.take n t⟩
theorem RPs.drop : ∀ {ps : List P} {vs : List V} (n : Nat), RPs G I ps vs → RPs G I (ps.drop n) (vs.drop n)
  | _, _, 0, r => r
  | [], _, _ + 1, r => by cases r; rfl
  | _ :: _, _, n + 1, ⟨x, q, e, r, t⟩ => by subst e; exact RPs.drop n t
theorem RPs.get : ∀ {ps : List P} {vs : List V} {i : Nat} {p : P}, RPs G I ps vs → ps[i]? = some p → ∃ x, vs[i]? = some x ∧ RP G I p x
  | [], _, _, _, _, e => by simp at e
  | _ :: _, _, 0, _, ⟨x, q, e, r, t⟩, h => by subst e; simp at h; subst h; exact ⟨x, rfl, r⟩
  | _ :: ps, _, i + 1, _, ⟨x, q, e, r, t⟩, h => by subst e; exact RPs.get (ps := ps) (i := i) t (by simpa using h)
theorem RPs.get' : ∀ {ps : List P} {vs : List V} {i : Nat} {x : V}, RPs G I ps vs → vs[i]? = some x → ∃ p, ps[i]? = some p ∧ RP G I p x
  | [], _, _, _, r, e => by cases r; simp at e
  | p :: _, _, 0, _, ⟨x, q, e, r, t⟩, h => by subst e; simp at h; subst h; exact ⟨p, rfl, r⟩
  | _ :: ps, _, i + 1, _, ⟨x, q, e, r, t⟩, h => by subst e; exact RPs.get' (ps := ps) (i := i) t (by simpa using h)
theorem RPs.set {p : P} {x : V} (r : RP G I p x) : ∀ {ps : List P} {vs : List V} (i : Nat), RPs G I ps vs → RPs G I (ps.set i p) (vs.set i x)
  | [], _, _, q => by cases q; rfl
  | _ :: _, _, 0, ⟨y, q, e, _, t⟩ => by subst e; exact ⟨x, q, rfl, r, t⟩
  | _ :: _, _, i + 1, ⟨y, q, e, h, t⟩ => by subst e; exact ⟨y, _, rfl, h, RPs.set r i t⟩
theorem RPs.reverse : ∀ {ps : List P} {vs : List V}, RPs G I ps vs → RPs G I ps.reverse vs.reverse
  | [], _, r => by cases r; rfl
  | _ :: _, _, ⟨x, q, e, r, t⟩ => by subst e; rw [List.reverse_cons, List.reverse_cons]; exact (RPs.reverse t).append ⟨x, [], rfl, r, rfl⟩
theorem RPs.one {p : P} {x : V} (r : RP G I p x) : RPs G I [p] [x] := ⟨x, [], rfl, r, rfl⟩
theorem RPs.rep {ps : List P} {vs : List V} (r : RPs G I ps vs) : ∀ k : Nat, RPs G I (List.replicate k ps).flatten (List.replicate k vs).flatten
  | 0 => rfl
  | k + 1 => by rw [List.replicate_succ, List.replicate_succ, List.flatten_cons, List.flatten_cons]; exact r.append (RPs.rep r k)
theorem RFs.lookup : ∀ {fs : List (Str × P)} {gs : List (Str × V)} {f : Str} {p : P}, RFs G I fs gs → fs.lookup f = some p → ∃ x, gs.lookup f = some x ∧ RP G I p x
  | [], _, _, _, _, e => by cases e
  | (g, q) :: fs, _, f, p, ⟨x, r, e, h, t⟩, k => by
    subst e
    rw [List.lookup_cons] at k ⊢
    cases c : f == g with
    | true => rw [c] at k; cases k; exact ⟨x, rfl, h⟩
    | false => rw [c] at k; exact RFs.lookup t k
theorem RFs.lookup_none : ∀ {fs : List (Str × P)} {gs : List (Str × V)} {f : Str}, RFs G I fs gs → fs.lookup f = none → gs.lookup f = none
  | [], _, _, r, _ => by cases r; rfl
  | (g, q) :: fs, _, f, ⟨x, r, e, h, t⟩, k => by
    subst e
    rw [List.lookup_cons] at k ⊢
    cases c : f == g with
    | true => rw [c] at k; cases k
    | false => rw [c] at k; exact RFs.lookup_none t k
theorem RFs.length : ∀ {fs : List (Str × P)} {gs : List (Str × V)}, RFs G I fs gs → fs.length = gs.length
  | [], _, r => by cases r; rfl
  | (_, _) :: _, _, ⟨_, _, e, _, t⟩ => by subst e; exact congrArg Nat.succ (RFs.length t)
end
/-- a field is put, as HandS's putF does it -/
def putD (f : Str) (p : P) : List (Str × P) → List (Str × P)
  | [] => [(f, p)]
  | (g, q) :: r => if g = f then (g, p) :: r else (g, q) :: putD f p r
theorem RFs.put {G : Gm} {I : Hp} {f : Str} {p : P} {x : V} (h : RP G I p x) : ∀ {fs : List (Str × P)} {gs : List (Str × V)}, RFs G I fs gs → RFs G I (putD f p fs) (putF f x gs)
  | [], _, r => by cases r; exact ⟨x, [], rfl, h, rfl⟩
  | (g, q) :: fs, _, ⟨y, r, e, k, t⟩ => by
    subst e
    unfold putD putF
    split
    · rename_i c
      exact ⟨x, r, rfl, h, t⟩
    · exact ⟨y, _, rfl, k, RFs.put h t⟩

/-- the object of the store at a -/
def OkO (G : Gm) (I H : Hp) (a : Addr) : SO → Prop
  | .lst ps => ∃ vs, H a = some (.lst vs) ∧ RPs G I ps vs
  | .dct kvs => ∃ ds, H a = some (.dK ds) ∧ RDs G I kvs ds
  | .ins n fs => ∃ dx gs, H a = some (.ins (cA G.K n) dx gs) ∧ RFs G I fs gs
  | .set _ => False
theorem OkO.mono {G : Gm} {I J H : Hp} {a : Addr} (h : Le I J) : ∀ {o : SO}, OkO G I H a o → OkO G J H a o
  | .lst _, ⟨vs, e, r⟩ => ⟨vs, e, RPs.mono h _ _ r⟩
  | .dct _, ⟨ds, e, r⟩ => ⟨ds, e, RDs.mono h _ _ r⟩
  | .ins _ _, ⟨dx, gs, e, r⟩ => ⟨dx, gs, e, RFs.mono h _ _ r⟩
theorem OkO.there {G : Gm} {I H : Hp} {a : Addr} : ∀ {o : SO}, OkO G I H a o → ∃ u, H a = some u
  | .lst _, ⟨_, e, _⟩ => ⟨_, e⟩
  | .dct _, ⟨_, e, _⟩ => ⟨_, e⟩
  | .ins _ _, ⟨_, _, e, _⟩ => ⟨_, e⟩
theorem OkO.at {G : Gm} {I H H' : Hp} {a : Addr} (q : H' a = H a) : ∀ {o : SO}, OkO G I H a o → OkO G I H' a o
  | .lst _, ⟨vs, e, r⟩ => ⟨vs, q.trans e, r⟩
  | .dct _, ⟨ds, e, r⟩ => ⟨ds, q.trans e, r⟩
  | .ins _ _, ⟨dx, gs, e, r⟩ => ⟨dx, gs, q.trans e, r⟩

/-- the store and the frozen part lie in the heap, the callers' objects beside them -/
structure StR (G : Gm) (S : Store) (I : Hp) (H : Hp) : Prop where
  i0 : Le G.I0 I
  imm : Le I H
  fr : Le G.F H
  fi : ∀ a u, G.F a = some u → I a = none ∧ S a = none
  st : ∀ a o, S a = some o → OkO G I H a o ∧ I a = none
/-- the slots too -/
structure Rel (G : Gm) (ρ : Env) (S : Store) (I : Hp) (σ : L2.St) (H : Hp) : Prop where
  sr : StR G S I H
  len : σ.length = ρ.length
  vs : ∀ (i : Nat) (p : P), ρ[i]? = some (.v p) → ∃ x, σ[i]? = some (some x) ∧ RP G I p x
  ow : ∀ (i : Nat) (o : SO), ρ[i]? = some (.own o) → ∃ a, σ[i]? = some (some (.ref a)) ∧ OkO G I H a o ∧ I a = none ∧ S a = none ∧ G.F a = none
  ap : ∀ (i j : Nat) (o u : SO) (a : Addr), i ≠ j → ρ[i]? = some (.own o) → ρ[j]? = some (.own u) → σ[i]? = some (some (.ref a)) → σ[j]? = some (some (.ref a)) → False
/-- a result -/
def RR (G : Gm) (I : Hp) (σ : L2.St) : R → V → Prop
  | .v p, x => RP G I p x
  | .loc i, x => σ[i]? = some (some x)
theorem RR.mono {G : Gm} {I J : Hp} {σ : L2.St} (h : Le I J) : ∀ {r : R} {x : V}, RR G I σ r x → RR G J σ r x
  | .v p, x, k => RP.mono h p x k
  | .loc _, _, k => k
def RRs (G : Gm) (I : Hp) (σ : L2.St) : List R → List V → Prop
  | [], vs => vs = []
  | r :: rs, vs => ∃ x q, vs = x :: q ∧ RR G I σ r x ∧ RRs G I σ rs q
theorem RRs.mono {G : Gm} {I J : Hp} {σ : L2.St} (h : Le I J) : ∀ {rs : List R} {vs : List V}, RRs G I σ rs vs → RRs G J σ rs vs
  | [], _, k => k
  | _ :: _, _, ⟨x, q, e, k, t⟩ => ⟨x, q, e, RR.mono h k, RRs.mono h t⟩

abbrev DQ := R → Env → Store → Prop
abbrev DT := Env → Store → DQ → Prop
/-- the deep reading as a reading of HandS's -/
def tr (G : Gm) (T : DT) : TE := fun σ H Q => ∃ (ρ : Env) (S : Store) (I : Hp) (Q0 : DQ), Rel G ρ S I σ H ∧ T ρ S Q0 ∧
  ∀ x H' r ρ' S' I', Le I I' → Rel G ρ' S' I' σ H' → RR G I' σ r x → Q0 r ρ' S' → Q x H'
def trT (G : Gm) (T : Env → Store → (Bool → Env → Store → Prop) → Prop) : TT := fun σ H Q => ∃ (ρ : Env) (S : Store) (I : Hp) (Q0 : Bool → Env → Store → Prop), Rel G ρ S I σ H ∧ T ρ S Q0 ∧
  ∀ b H' ρ' S' I', Le I I' → Rel G ρ' S' I' σ H' → Q0 b ρ' S' → Q b H'
abbrev DA := Env → Store → (List R → Env → Store → Prop) → Prop
def trA (G : Gm) (T : DA) : TA := fun σ H Q => ∃ (ρ : Env) (S : Store) (I : Hp) (Q0 : List R → Env → Store → Prop), Rel G ρ S I σ H ∧ T ρ S Q0 ∧
  ∀ xs H' rs ρ' S' I', Le I I' → Rel G ρ' S' I' σ H' → RRs G I' σ rs xs → Q0 rs ρ' S' → Q xs H'
structure DEnds where
  nx : Env → Store → Prop
  rt : P → Store → Prop
  bk : Env → Store → Prop := fun _ _ => False
  ct : Env → Store → Prop := fun _ _ => False
abbrev DS := DEnds → Env → Store → Prop
def trS (G : Gm) (T : DS) : TS := fun D σ H => ∃ (ρ : Env) (S : Store) (I : Hp) (D0 : DEnds), Rel G ρ S I σ H ∧ T D0 ρ S ∧
  (∀ σ' H' ρ' S' I', Le I I' → Rel G ρ' S' I' σ' H' → D0.nx ρ' S' → D.nx σ' H') ∧
  (∀ x H' p S' I', Le I I' → StR G S' I' H' → RP G I' p x → D0.rt p S' → D.rt x H') ∧
  (∀ σ' H' ρ' S' I', Le I I' → Rel G ρ' S' I' σ' H' → D0.bk ρ' S' → D.bk σ' H') ∧
  (∀ σ' H' ρ' S' I', Le I I' → Rel G ρ' S' I' σ' H' → D0.ct ρ' S' → D.ct σ' H')
/-- the context's own fixed part -/
abbrev gm (F I0 : Hp) (X : Cx) : Gm := ⟨X.K, X.w, F, I0⟩
abbrev DE (F I0 : Hp) (X : Cx) (e : Expr) (T : DT) : Prop := PE X e (tr (gm F I0 X) T)
abbrev DTs (F I0 : Hp) (X : Cx) (e : Expr) (T : Env → Store → (Bool → Env → Store → Prop) → Prop) : Prop := PT X e (trT (gm F I0 X) T)
abbrev DAs (F I0 : Hp) (X : Cx) (es : List Expr) (T : DA) : Prop := PA X es (trA (gm F I0 X) T)
abbrev DSt (F I0 : Hp) (X : Cx) (st : Stmt) (T : DS) : Prop := PS X st (trS (gm F I0 X) T)
abbrev DSs (F I0 : Hp) (X : Cx) (st : List Stmt) (T : DS) : Prop := PSs X st (trS (gm F I0 X) T)

theorem _root_.L2.PE.weak {X : Cx} {e : Expr} {t t' : TE} (h : PE X e t) (k : ∀ σ H Q, t' σ H Q → t σ H Q) : PE X e t' := ⟨fun p s σ H Q I q => h.run p s σ H Q I (k _ _ _ q)⟩
theorem _root_.L2.PT.weak {X : Cx} {e : Expr} {t t' : TT} (h : PT X e t) (k : ∀ σ H Q, t' σ H Q → t σ H Q) : PT X e t' := ⟨fun p s σ H Q I q => h.run p s σ H Q I (k _ _ _ q)⟩
theorem _root_.L2.PA.weak {X : Cx} {e : List Expr} {t t' : TA} (h : PA X e t) (k : ∀ σ H Q, t' σ H Q → t σ H Q) : PA X e t' := ⟨fun o p s σ H Q I q => h.run o p s σ H Q I (k _ _ _ q)⟩
theorem _root_.L2.PS.weak {X : Cx} {e : Stmt} {t t' : TS} (h : PS X e t) (k : ∀ D σ H, t' D σ H → t D σ H) : PS X e t' := ⟨fun p s σ H D I q => h.run p s σ H D I (k _ _ _ q)⟩
theorem _root_.L2.PSs.weak {X : Cx} {e : List Stmt} {t t' : TS} (h : PSs X e t) (k : ∀ D σ H, t' D σ H → t D σ H) : PSs X e t' := ⟨fun p s σ H D I q => h.run p s σ H D I (k _ _ _ q)⟩

section
variable {G : Gm} {ρ : Env} {S : Store} {I : Hp} {σ : L2.St} {H : Hp}
/-- a new object is laid: it is frozen -/
theorem StR.frz (r : StR G S I H) {p : Addr} {o : HO} (h : H p = none) : Le I (upd I p o) ∧ StR G S (upd I p o) (upd H p o) := by
  have hi : I p = none := by
    cases e : I p with
    | none => rfl
    | some u => rw [r.imm p u e] at h; cases h
  have hl : Le I (upd I p o) := Le.upd hi
  have hf : G.F p = none := by
    cases e : G.F p with
    | none => rfl
    | some u => rw [r.fr p u e] at h; cases h
  have hs : S p = none := by
    cases e : S p with
    | none => rfl
    | some u => obtain ⟨v, q⟩ := (r.st p u e).1.there; rw [h] at q; cases q
  refine ⟨hl, r.i0.trans hl, fun a u e => ?_, fun a u e => ?_, fun a u e => ?_, fun a u e => ?_⟩
  · by_cases c : a = p
    · subst c; rw [upd_same] at e ⊢; exact e
    · rw [upd_ne c] at e ⊢; exact r.imm a u e
  · rw [upd_ne (ne_of_none e hf)]; exact r.fr a u e
  · obtain ⟨h1, h2⟩ := r.fi a u e
    exact ⟨by rw [upd_ne (ne_of_none e hf)]; exact h1, h2⟩
  · obtain ⟨h1, h2⟩ := r.st a u e
    have c : a ≠ p := by rintro rfl; rw [hs] at e; cases e
    exact ⟨(h1.mono hl).at (upd_ne c), by rw [upd_ne c]; exact h2⟩
theorem Rel.ownNe (r : Rel G ρ S I σ H) {i : Nat} {o : SO} {a p : Addr} (e : ρ[i]? = some (.own o)) (ha : σ[i]? = some (some (.ref a))) (h : H p = none) : a ≠ p := by
  obtain ⟨b, h1, h2, _⟩ := r.ow i o e
  rw [ha] at h1; cases h1
  rintro rfl
  obtain ⟨u, q⟩ := h2.there
  rw [h] at q; cases q
theorem Rel.frz (r : Rel G ρ S I σ H) {p : Addr} {o : HO} (h : H p = none) : Le I (upd I p o) ∧ Rel G ρ S (upd I p o) σ (upd H p o) := by
  obtain ⟨hl, q⟩ := r.sr.frz (o := o) h
  refine ⟨hl, q, r.len, fun i x e => ?_, fun i u e => ?_, r.ap⟩
  · obtain ⟨v, h1, h2⟩ := r.vs i x e
    exact ⟨v, h1, RP.mono hl _ _ h2⟩
  · obtain ⟨a, h1, h2, h3, h4⟩ := r.ow i u e
    have c : a ≠ p := r.ownNe e h1 h
    exact ⟨a, h1, (h2.mono hl).at (upd_ne c), by rw [upd_ne c]; exact h3, h4⟩
/-- a slot gets a value -/
theorem Rel.put (r : Rel G ρ S I σ H) {i : Nat} {p : P} {x : V} (h : RP G I p x) : Rel G (ρ.set i (.v p)) S I (σ.set i (some x)) H := by
  have hlen : σ.length = ρ.length := r.len
  refine ⟨r.sr, by simpa using hlen, fun j q e => ?_, fun j o e => ?_, fun j k o u a hjk e1 e2 h1 h2 => ?_⟩
  · by_cases c : i = j
    · subst c
      by_cases hi : i < ρ.length
      · rw [List.getElem?_set_self hi] at e; cases e
        exact ⟨x, List.getElem?_set_self (by omega), h⟩
      · rw [List.getElem?_eq_none (by simpa using hi)] at e; cases e
    · rw [List.getElem?_set_ne c] at e ⊢; exact r.vs j q e
  · by_cases c : i = j
    · subst c
      by_cases hi : i < ρ.length
      · rw [List.getElem?_set_self hi] at e; cases e
      · rw [List.getElem?_eq_none (by simpa using hi)] at e; cases e
    · rw [List.getElem?_set_ne c] at e ⊢; exact r.ow j o e
  · have nj : ∀ {m : Nat} {w : SO}, (ρ.set i (.v p))[m]? = some (.own w) → i ≠ m := by
      rintro m w e rfl
      by_cases hi : i < ρ.length
      · rw [List.getElem?_set_self hi] at e; cases e
      · rw [List.getElem?_eq_none (by simpa using hi)] at e; cases e
    have c1 := nj e1
    have c2 := nj e2
    rw [List.getElem?_set_ne c1] at e1 h1
    rw [List.getElem?_set_ne c2] at e2 h2
    exact r.ap j k o u a hjk e1 e2 h1 h2
/-- slots are forgotten -/
theorem Rel.weak (r : Rel G ρ S I σ H) {ρ' : Env} (hl : ρ'.length = ρ.length) (w : ∀ (i : Nat) (s : Sl), ρ'[i]? = some s → s ≠ .un → ρ[i]? = some s) : Rel G ρ' S I σ H :=
  ⟨r.sr, r.len.trans hl.symm, fun i p e => r.vs i p (w i _ e (by intro q; cases q)), fun i o e => r.ow i o (w i _ e (by intro q; cases q)),
    fun i j o u a h e1 e2 => r.ap i j o u a h (w i _ e1 (by intro q; cases q)) (w j _ e2 (by intro q; cases q))⟩
/-- a new object is laid: the slot's own -/
theorem Rel.newOwn (r : Rel G ρ S I σ H) {i : Nat} {p : Addr} {o : SO} {u : HO} (h : H p = none) (ho : OkO G I (upd H p u) p o) : Rel G (ρ.set i (.own o)) S I (σ.set i (some (.ref p))) (upd H p u) := by
  have hi : I p = none := by
    cases e : I p with
    | none => rfl
    | some u => rw [r.sr.imm p u e] at h; cases h
  have hf : G.F p = none := by
    cases e : G.F p with
    | none => rfl
    | some u => rw [r.sr.fr p u e] at h; cases h
  have hs : S p = none := by
    cases e : S p with
    | none => rfl
    | some u => obtain ⟨v, q⟩ := (r.sr.st p u e).1.there; rw [h] at q; cases q
  have cut : ∀ {m : Nat} {w : Sl}, (ρ.set i (.own o))[m]? = some w → (m = i ∧ w = .own o) ∨ (i ≠ m ∧ ρ[m]? = some w) := by
    intro m w e
    by_cases c : i = m
    · subst c
      by_cases hi : i < ρ.length
      · rw [List.getElem?_set_self hi] at e; cases e; exact .inl ⟨rfl, rfl⟩
      · rw [List.getElem?_eq_none (by simpa using hi)] at e; cases e
    · rw [List.getElem?_set_ne c] at e; exact .inr ⟨c, e⟩
  refine ⟨⟨r.sr.i0, fun a w e => ?_, fun a w e => ?_, r.sr.fi, fun a w e => ?_⟩, by simpa using r.len, fun j q e => ?_, fun j w e => ?_, fun j k w z a hjk e1 e2 h1 h2 => ?_⟩
  · rw [upd_ne (ne_of_none e hi)]; exact r.sr.imm a w e
  · rw [upd_ne (ne_of_none e hf)]; exact r.sr.fr a w e
  · obtain ⟨h1, h2⟩ := r.sr.st a w e
    have c : a ≠ p := by rintro rfl; rw [hs] at e; cases e
    exact ⟨h1.at (upd_ne c), h2⟩
  · rcases cut e with ⟨_, q⟩ | ⟨c, e⟩
    · cases q
    · rw [List.getElem?_set_ne c]; exact r.vs j q e
  · rcases cut e with ⟨rfl, q⟩ | ⟨c, e⟩
    · cases q
      have hj : j < σ.length := by
        have := (List.getElem?_eq_some_iff.mp e).1
        rw [r.len]; simpa using this
      exact ⟨p, List.getElem?_set_self hj, ho, hi, hs, hf⟩
    · obtain ⟨a, h1, h2, h3⟩ := r.ow j w e
      have ca : a ≠ p := r.ownNe e h1 h
      exact ⟨a, by rw [List.getElem?_set_ne c]; exact h1, h2.at (upd_ne ca), h3⟩
  · rcases cut e1 with ⟨rfl, q⟩ | ⟨c1, f1⟩
    · rcases cut e2 with ⟨rfl, q2⟩ | ⟨c2, e2⟩
      · exact hjk rfl
      · rw [List.getElem?_set_ne c2] at h2
        have hj : j < σ.length := by
          by_cases hj : j < σ.length
          · exact hj
          · rw [List.getElem?_eq_none (by simpa using hj)] at h1; cases h1
        rw [List.getElem?_set_self hj] at h1; cases h1
        exact r.ownNe e2 h2 h rfl
    · rcases cut e2 with ⟨rfl, q2⟩ | ⟨c2, e2⟩
      · rw [List.getElem?_set_ne c1] at h1
        have hj : k < σ.length := by
          by_cases hj : k < σ.length
          · exact hj
          · rw [List.getElem?_eq_none (by simpa using hj)] at h2; cases h2
        rw [List.getElem?_set_self hj] at h2; cases h2
        exact r.ownNe f1 h1 h rfl
      · rw [List.getElem?_set_ne c1] at h1
        rw [List.getElem?_set_ne c2] at h2
        exact r.ap j k w z a hjk f1 e2 h1 h2
/-- the slot's own object is written -/
theorem Rel.setOwn (r : Rel G ρ S I σ H) {i : Nat} {a : Addr} {o o' : SO} {u : HO} (e : ρ[i]? = some (.own o)) (ha : σ[i]? = some (some (.ref a))) (ho : OkO G I (upd H a u) a o') : Rel G (ρ.set i (.own o')) S I σ (upd H a u) := by
  obtain ⟨b, h1, h2, h3, h4, h5⟩ := r.ow i o e
  rw [ha] at h1; cases h1
  have cut : ∀ {m : Nat} {w : Sl}, (ρ.set i (.own o'))[m]? = some w → (m = i ∧ w = .own o') ∨ (i ≠ m ∧ ρ[m]? = some w) := by
    intro m w e
    by_cases c : i = m
    · subst c
      by_cases hi : i < ρ.length
      · rw [List.getElem?_set_self hi] at e; cases e; exact .inl ⟨rfl, rfl⟩
      · rw [List.getElem?_eq_none (by simpa using hi)] at e; cases e
    · rw [List.getElem?_set_ne c] at e; exact .inr ⟨c, e⟩
  refine ⟨⟨r.sr.i0, fun b w e => ?_, fun b w e => ?_, r.sr.fi, fun b w e => ?_⟩, by simpa using r.len, fun j q e => ?_, fun j w e => ?_, fun j k w z b hjk e1 e2 k1 k2 => ?_⟩
  · rw [upd_ne (ne_of_none e h3)]; exact r.sr.imm b w e
  · rw [upd_ne (ne_of_none e h5)]; exact r.sr.fr b w e
  · obtain ⟨k1, k2⟩ := r.sr.st b w e
    have c : b ≠ a := by rintro rfl; rw [h4] at e; cases e
    exact ⟨k1.at (upd_ne c), k2⟩
  · rcases cut e with ⟨_, q⟩ | ⟨c, e⟩
    · cases q
    · exact r.vs j q e
  · rcases cut e with ⟨rfl, q⟩ | ⟨c, e'⟩
    · cases q
      exact ⟨a, ha, ho, h3, h4, h5⟩
    · obtain ⟨b, k1, k2, k3⟩ := r.ow j w e'
      have cb : b ≠ a := by rintro rfl; exact r.ap i j o w b c ‹ρ[i]? = some (.own o)› e' ha k1
      exact ⟨b, k1, k2.at (upd_ne cb), k3⟩
  · rcases cut e1 with ⟨rfl, q⟩ | ⟨c1, f1⟩
    · rcases cut e2 with ⟨rfl, q2⟩ | ⟨c2, e2⟩
      · exact hjk rfl
      · exact r.ap j k o z b hjk ‹ρ[j]? = some (.own o)› e2 k1 k2
    · rcases cut e2 with ⟨rfl, q2⟩ | ⟨c2, e2⟩
      · exact r.ap j k w o b hjk f1 ‹ρ[k]? = some (.own o)› k1 k2
      · exact r.ap j k w z b hjk f1 e2 k1 k2
/-- an object of the store is written -/
theorem Rel.setSt (r : Rel G ρ S I σ H) {a : Addr} {o o' : SO} {u : HO} (e : S a = some o) (ho : OkO G I (upd H a u) a o') : Rel G ρ (ups S a o') I σ (upd H a u) := by
  obtain ⟨h2, h3⟩ := r.sr.st a o e
  have hf : G.F a = none := by
    cases q : G.F a with
    | none => rfl
    | some u => have := (r.sr.fi a u q).2; rw [e] at this; cases this
  refine ⟨⟨r.sr.i0, fun b w e => ?_, fun b w e => ?_, fun b w q => ?_, fun b w q => ?_⟩, r.len, r.vs, fun j w q => ?_, r.ap⟩
  · rw [upd_ne (ne_of_none e h3)]; exact r.sr.imm b w e
  · rw [upd_ne (ne_of_none e hf)]; exact r.sr.fr b w e
  · obtain ⟨k1, k2⟩ := r.sr.fi b w q
    exact ⟨k1, by rw [ups_ne (ne_of_none q hf)]; exact k2⟩
  · by_cases c : b = a
    · subst c; rw [ups_same] at q; cases q; exact ⟨ho, h3⟩
    · rw [ups_ne c] at q
      obtain ⟨k1, k2⟩ := r.sr.st b w q
      exact ⟨k1.at (upd_ne c), k2⟩
  · obtain ⟨b, k1, k2, k3, k4, k5⟩ := r.ow j w q
    have c : b ≠ a := by rintro rfl; rw [e] at k4; cases k4
    exact ⟨b, k1, k2.at (upd_ne c), k3, by rw [ups_ne c]; exact k4, k5⟩
/-- a new object is laid: the store's -/
theorem Rel.newSt (r : Rel G ρ S I σ H) {p : Addr} {o : SO} {u : HO} (h : H p = none) (ho : OkO G I (upd H p u) p o) : S p = none ∧ Rel G ρ (ups S p o) I σ (upd H p u) := by
  have hi : I p = none := by
    cases e : I p with
    | none => rfl
    | some u => rw [r.sr.imm p u e] at h; cases h
  have hf : G.F p = none := by
    cases e : G.F p with
    | none => rfl
    | some u => rw [r.sr.fr p u e] at h; cases h
  have hs : S p = none := by
    cases e : S p with
    | none => rfl
    | some u => obtain ⟨v, q⟩ := (r.sr.st p u e).1.there; rw [h] at q; cases q
  refine ⟨hs, ⟨r.sr.i0, fun b w e => ?_, fun b w e => ?_, fun b w q => ?_, fun b w q => ?_⟩, r.len, r.vs, fun j w q => ?_, r.ap⟩
  · rw [upd_ne (ne_of_none e hi)]; exact r.sr.imm b w e
  · rw [upd_ne (ne_of_none e hf)]; exact r.sr.fr b w e
  · obtain ⟨k1, k2⟩ := r.sr.fi b w q
    exact ⟨k1, by rw [ups_ne (ne_of_none q hf)]; exact k2⟩
  · by_cases c : b = p
    · subst c; rw [ups_same] at q; cases q; exact ⟨ho, hi⟩
    · rw [ups_ne c] at q
      obtain ⟨k1, k2⟩ := r.sr.st b w q
      exact ⟨k1.at (upd_ne c), k2⟩
  · obtain ⟨b, k1, k2, k3, k4, k5⟩ := r.ow j w q
    have c : b ≠ p := r.ownNe q k1 h
    exact ⟨b, k1, k2.at (upd_ne c), k3, by rw [ups_ne c]; exact k4, k5⟩
end
end D
/-! D1: values as data, the operators by deep values. -/
namespace D
open PySem PySem.Spec L2

/-! ### a tree as data -/
mutual
def P.dat : P → PyData
  | .non => .none
  | .bl b => .bool b
  | .int i => .int i
  | .str s => .str s
  | .tup xs => .tuple (P.dats xs)
  | .row _ => .none
  | .lst xs => .list (P.dats xs)
  | .dct _ => .dict []
  | .cl _ => .none
  | .ty _ => .none
  | .scr _ => .none
  | .ref _ => .none
  | .ins _ _ => .none
def P.dats : List P → List PyData
  | [] => []
  | p :: ps => p.dat :: P.dats ps
end
mutual
/-- data: it can be shown -/
def P.isD : P → Bool
  | .non | .bl _ | .int _ | .str _ => true
  | .tup xs | .lst xs => P.isDs xs
  | .dct kvs => kvs.isEmpty
  | .ty _ | .row _ | .scr _ | .ref _ | .ins _ _ | .cl _ => false
def P.isDs : List P → Bool
  | [] => true
  | p :: ps => p.isD && P.isDs ps
end
mutual
/-- data that is compared: no dict in it -/
def P.isE : P → Bool
  | .non | .bl _ | .int _ | .str _ => true
  | .tup xs | .lst xs => P.isEs xs
  | .dct _ | .row _ | .scr _ | .ty _ | .ref _ | .ins _ _ | .cl _ => false
def P.isEs : List P → Bool
  | [] => true
  | p :: ps => p.isE && P.isEs ps
end
theorem P.dats_map : ∀ xs : List P, P.dats xs = xs.map P.dat
  | [] => rfl
  | p :: ps => congrArg (p.dat :: ·) (P.dats_map ps)
theorem P.isEs_all : ∀ xs : List P, P.isEs xs = xs.all P.isE
  | [] => rfl
  | p :: ps => by rw [P.isEs, P.isEs_all ps]; rfl
theorem P.isDs_all : ∀ xs : List P, P.isDs xs = xs.all P.isD
  | [] => rfl
  | p :: ps => by rw [P.isDs, P.isDs_all ps]; rfl
/-- the comparison of two trees, as Python's == -/
def eqP (p q : P) : Bool := PyData.eqv p.dat q.dat
/-- how deep a tree is -/
def P.dep (p : P) : Nat := p.dat.depth
def eqOk (p q : P) : Bool := p.isE && q.isE && decide (min p.dep q.dep ≤ 50)

section
variable {X : Cx} {pins : List (Addr × Obj)} {σ : L2.St} {H I : Hp} {s : Shared} {G : Gm}
mutual
theorem RP.reads (J : Inv X pins σ H s) (hk : G.K = X.K) (hl : Le I H) : ∀ (p : P) (x : V) (u : Value), RP G I p x → RelV x u → p.isE = true → ∃ as, Reads s.heap u p.dat as
  | .non, _, _, r, e, _ => by cases r; cases e; exact ⟨_, .none⟩
  | .bl b, _, _, r, e, _ => by cases r; cases e; exact ⟨_, .bool b⟩
  | .int i, _, _, r, e, _ => by cases r; obtain ⟨t, rfl⟩ := e; exact ⟨_, .int i t⟩
  | .str i, _, _, r, e, _ => by cases r.1; obtain ⟨t, rfl⟩ := e; exact ⟨_, .str i t⟩
  | .tup ps, _, _, ⟨a, vs, e, h, t⟩, ru, hd => by
    subst e; cases ru
    obtain ⟨its, rv, ⟨o, ho, hc, n, hdt⟩, _⟩ := J.tuple (hl.sqt (hk ▸ h).sqt)
    obtain ⟨as, q1⟩ := RPs.reads J hk hl ps vs its t rv hd
    exact ⟨as, .tuple ho hc hdt (by simpa using q1)⟩
  | .lst ps, _, _, ⟨a, vs, e, h, t⟩, ru, hd => by
    subst e; cases ru
    obtain ⟨its, rv, ⟨o, n, ho, hc, hdd, hdt⟩, _⟩ := J.list (SqL.of (hl _ _ h))
    obtain ⟨as, q1⟩ := RPs.reads J hk hl ps vs its t rv hd
    exact ⟨a :: as, .list ho hc hdt (by simpa using q1)⟩
  | .scr _, _, _, _, _, hd => nomatch hd
  | .row _, _, _, _, _, hd => nomatch hd
  | .dct _, _, _, _, _, hd => nomatch hd
  | .ty _, _, _, _, _, hd => nomatch hd
  | .ref _, _, _, _, _, hd => nomatch hd
  | .ins _ _, _, _, _, _, hd => nomatch hd
  | .cl _, _, _, _, _, hd => nomatch hd
theorem RPs.reads (J : Inv X pins σ H s) (hk : G.K = X.K) (hl : Le I H) : ∀ (ps : List P) (xs : List V) (us : List Value), RPs G I ps xs → Vals xs us → P.isEs ps = true → ∃ as, ReadsAll s.heap us (P.dats ps) as
  | [], _, _, r, e, _ => by cases r; cases e; exact ⟨_, .nil⟩
  | p :: ps, _, _, ⟨x, q, e, r, t⟩, ru, hd => by
    subst e
    cases ru with
    | cons ru rt =>
      have hd' : p.isE = true ∧ P.isEs ps = true := by simpa [P.isEs] using hd
      obtain ⟨as, a1⟩ := RP.reads J hk hl p x _ r ru hd'.1
      obtain ⟨bs, b1⟩ := RPs.reads J hk hl ps q _ t rt hd'.2
      exact ⟨as ++ bs, .cons a1 b1⟩
end
mutual
theorem RP.lay : ∀ (p : P) (x : V), RP G I p x → p.isE = true → p.dat.canLay0 = true
  | .non, _, _, _ => rfl
  | .bl b, _, _, _ => rfl
  | .int i, _, _, _ => rfl
  | .str i, _, r, _ => r.2.2
  | .tup ps, _, ⟨a, vs, e, h, t⟩, hd => RPs.lay ps vs t hd
  | .lst ps, _, ⟨a, vs, e, h, t⟩, hd => RPs.lay ps vs t hd
  | .scr _, _, _, hd => nomatch hd
  | .row _, _, _, hd => nomatch hd
  | .dct _, _, _, hd => nomatch hd
  | .ty _, _, _, hd => nomatch hd
  | .ref _, _, _, hd => nomatch hd
  | .ins _ _, _, _, hd => nomatch hd
  | .cl _, _, _, hd => nomatch hd
theorem RPs.lay : ∀ (ps : List P) (xs : List V), RPs G I ps xs → P.isEs ps = true → PyData.canLayAll0 (P.dats ps) = true
  | [], _, _, _ => rfl
  | p :: ps, _, ⟨x, q, e, r, t⟩, hd => by
    have hd' : p.isE = true ∧ P.isEs ps = true := by simpa [P.isEs] using hd
    show (p.dat.canLay0 && PyData.canLayAll0 (P.dats ps)) = true
    rw [RP.lay p x r hd'.1, RPs.lay ps q t hd'.2] <;> rfl
end
end

/-! ### operations by values -/
abbrev K1 := P → Prop
/-- what is wanted behind an operation: a value, the slots and the store as they were -/
abbrev Pst (G : Gm) (ρ : Env) (S : Store) (I : Hp) (σ : L2.St) (k : K1) (Q : VK) : Prop := ∀ (z : V) (H' : Hp) (p : P) (I' : Hp), Le I I' → Rel G ρ S I' σ H' → RP G I' p z → k p → Q z H'
/-- a link: HandS's reading of two values by the deep one -/
def Lk2 (X : Cx) (r : R2) (d : R → R → Env → Store → K1 → Prop) : Prop :=
  ∀ (F I0 : Hp) (ρ : Env) (S : Store) (I : Hp) (σ : L2.St) (H : Hp) (x y : V) (a b : R) (k : K1) (Q : VK), Rel (gm F I0 X) ρ S I σ H → RR (gm F I0 X) I σ a x → RR (gm F I0 X) I σ b y → d a b ρ S k → Pst (gm F I0 X) ρ S I σ k Q → r x y H Q
/-- an operation of two values keeps what the deep one says -/
def Op2 (X : Cx) (f : Value → Value → Sem Value) (d : R → R → Env → Store → K1 → Prop) : Prop :=
  ∀ (F I0 : Hp) (pins : List (Addr × Obj)) (s : Shared) (ρ : Env) (S : Store) (I : Hp) (σ τ : L2.St) (H : Hp) (x y : V) (v u : Value) (a b : R) (k : K1) (Q : VK), Inv X pins τ H s → Rel (gm F I0 X) ρ S I σ H → RR (gm F I0 X) I σ a x → RR (gm F I0 X) I σ b y → RelV x v → RelV y u → d a b ρ S k →
    Pst (gm F I0 X) ρ S I σ k Q → wpAny (model X.prog X.w) X.A (f v u) (EP X pins τ Q) X.xe s
theorem Op2.of {X : Cx} {f : Value → Value → Sem Value} {r : R2} {d : R → R → Env → Store → K1 → Prop} (h : OpR X f r) (l : Lk2 X r d) : Op2 X f d :=
  fun F I0 pins s ρ S I σ τ H x y v u a b k Q J R ra rb rx ry q post => h pins s τ H x y v u Q J rx ry (l F I0 ρ S I σ H x y a b k Q R ra rb q post)
/-- the deep operation as a reading of HandS's -/
def rD2 (G : Gm) (d : R → R → Env → Store → K1 → Prop) : R2 := fun x y H Q => ∃ (ρ : Env) (S : Store) (I : Hp) (σ : L2.St) (a b : R) (k : K1), Rel G ρ S I σ H ∧ RR G I σ a x ∧ RR G I σ b y ∧ d a b ρ S k ∧ Pst G ρ S I σ k Q
theorem Op2.r {X : Cx} {f : Value → Value → Sem Value} {d : R → R → Env → Store → K1 → Prop} (h : Op2 X f d) (F I0 : Hp) : OpR X f (rD2 (gm F I0 X) d) := by
  intro pins s σ H x y v u Q J rx ry q
  obtain ⟨ρ, S, I, σ', a, b, k, R, ra, rb, q, post⟩ := q
  exact h F I0 pins s ρ S I σ' σ H x y v u a b k Q J R ra rb rx ry q post
def T2 (d : R → R → Env → Store → K1 → Prop) (ta tb : DT) : DT := fun ρ S Q => ta ρ S fun a ρ1 S1 => tb ρ1 S1 fun b ρ2 S2 => d a b ρ2 S2 fun p => Q (.v p) ρ2 S2
def T1 (d : R → Env → Store → K1 → Prop) (ta : DT) : DT := fun ρ S Q => ta ρ S fun a ρ1 S1 => d a ρ1 S1 fun p => Q (.v p) ρ1 S1
theorem weak2 {G : Gm} {d : R → R → Env → Store → K1 → Prop} {Ta Tb : DT} {r : R2} (hr : ∀ x y H Q, rD2 G d x y H Q → r x y H Q) : ∀ σ H Q, tr G (T2 d Ta Tb) σ H Q → tOp r (tr G Ta) (tr G Tb) σ H Q := by
  intro σ H Q ⟨ρ, S, I, Q0, R, h, post⟩
  refine ⟨ρ, S, I, _, R, h, fun x H1 a ρ1 S1 I1 l1 R1 ra q1 => ?_⟩
  refine ⟨ρ1, S1, I1, _, R1, q1, fun y H2 b ρ2 S2 I2 l2 R2 rb q2 => ?_⟩
  exact hr _ _ _ _ ⟨ρ2, S2, I2, σ, a, b, _, R2, ra.mono l2, rb, q2, fun z H' p I' l R' rp kp => post z H' (.v p) ρ2 S2 I' (l1.trans (l2.trans l)) R' rp kp⟩
section
variable {X : Cx} {F I0 : Hp} {a b c : Expr} {Ta Tb Tc : DT} {pos : Pos}
theorem d_op {op : Operator} {d : R → R → Env → Store → K1 → Prop} (ho : Op2 X (binaryOp op) d) (ha : DE F I0 X a Ta) (hb : DE F I0 X b Tb) : DE F I0 X (.BinOp a op b pos) (T2 d Ta Tb) :=
  (pe_op (ho.r F I0) ha hb).weak (weak2 fun _ _ _ _ h => h)
theorem d_cmp {op : CmpOp} {d : R → R → Env → Store → K1 → Prop} (ho : Op2 X (compareOp op) d) (ha : DE F I0 X a Ta) (hb : DE F I0 X b Tb) (hm : behindInMarks op b = false) : DE F I0 X (.Compare a [op] [b] pos) (T2 d Ta Tb) :=
  (pe_cmpR (ho.r F I0) ha hb hm).weak (weak2 fun _ _ _ _ h => h)
end

/-! ### what a result shows -/
/-- a list that is read -/
def asL (ρ : Env) (S : Store) : R → Option (List P)
  | .v (.lst xs) => some xs
  | .v (.scr xs) => some xs
  | .v (.ref a) => match S a with | some (.lst xs) => some xs | _ => none
  | .loc i => match ρ[i]? with | some (.own (.lst xs)) => some xs | _ => none
  | _ => none
/-- a list that is no script -/
def asL0 (ρ : Env) (S : Store) : R → Option (List P)
  | .v (.lst xs) => some xs
  | .v (.ref a) => match S a with | some (.lst xs) => some xs | _ => none
  | .loc i => match ρ[i]? with | some (.own (.lst xs)) => some xs | _ => none
  | _ => none
/-- a list or tuple that is read -/
def asQ (ρ : Env) (S : Store) : R → Option (List P)
  | .v (.tup xs) => some xs
  | r => asL ρ S r
/-- data, a list that may change as it is now -/
def asD (ρ : Env) (S : Store) (r : R) : Option P := match r with
  | .v (.ref a) => (asL0 ρ S (.v (.ref a))).map P.lst
  | .loc i => (asL0 ρ S (.loc i)).map P.lst
  | .v p => some p
section
variable {G : Gm} {ρ : Env} {S : Store} {I : Hp} {σ : L2.St} {H : Hp}
theorem Rel.asL0 (h : Rel G ρ S I σ H) {r : R} {x : V} {xs : List P} (rr : RR G I σ r x) (e : D.asL0 ρ S r = some xs) : ∃ a vs, x = .ref a ∧ H a = some (.lst vs) ∧ RPs G I xs vs := by
  unfold D.asL0 at e
  split at e
  · cases e
    obtain ⟨a, vs, e, q, t⟩ := rr
    exact ⟨a, vs, e, h.sr.imm _ _ q, t⟩
  · rename_i a
    split at e
    · rename_i ys q
      cases e
      obtain ⟨⟨vs, h1, h2⟩, _⟩ := h.sr.st a _ q
      exact ⟨a, vs, rr, h1, h2⟩
    · cases e
  · rename_i i
    split at e
    · rename_i ys q
      cases e
      obtain ⟨a, h1, ⟨vs, h2, h3⟩, _⟩ := h.ow i _ q
      have : some (some x) = some (some (V.ref a)) := (show σ[i]? = some (some x) from rr).symm.trans h1
      cases this
      exact ⟨a, vs, rfl, h2, h3⟩
    · cases e
  · cases e
theorem Rel.asL (h : Rel G ρ S I σ H) {r : R} {x : V} {xs : List P} (rr : RR G I σ r x) (e : D.asL ρ S r = some xs) : ∃ a vs, x = .ref a ∧ SqL G.K H a vs ∧ RPs G I xs vs := by
  by_cases c : ∃ ys, r = .v (.scr ys)
  · obtain ⟨ys, rfl⟩ := c
    cases e
    obtain ⟨a, vs, e, q, t⟩ := rr
    exact ⟨a, vs, e, h.sr.imm.sql q, t⟩
  · have e' : D.asL0 ρ S r = some xs := by
      rw [← e]
      unfold D.asL D.asL0
      cases r with
      | loc i => rfl
      | v p => cases p <;> first | rfl | exact (c ⟨_, rfl⟩).elim
    obtain ⟨a, vs, h1, h2, h3⟩ := h.asL0 rr e'
    exact ⟨a, vs, h1, SqL.of h2, h3⟩
theorem Rel.asQ (h : Rel G ρ S I σ H) {r : R} {x : V} {xs : List P} (rr : RR G I σ r x) (e : D.asQ ρ S r = some xs) : ∃ a vs, x = .ref a ∧ (SqL G.K H a vs ∨ SqT G.K H a vs) ∧ RPs G I xs vs := by
  unfold D.asQ at e
  split at e
  · cases e
    obtain ⟨a, vs, e, q, t⟩ := rr
    exact ⟨a, vs, e, .inr (h.sr.imm.sqt q.sqt), t⟩
  · obtain ⟨a, vs, h1, h2, h3⟩ := h.asL rr e
    exact ⟨a, vs, h1, .inl h2, h3⟩
theorem Rel.asD {X : Cx} {F I0 : Hp} {pins : List (Addr × Obj)} {s : Shared} {τ : L2.St} (J : Inv X pins τ H s) (h : Rel (gm F I0 X) ρ S I σ H) {r : R} {x : V} {u : Value} {p : P} (rr : RR (gm F I0 X) I σ r x) (e : D.asD ρ S r = some p) (ru : RelV x u) (hp : p.isE = true) :
    (∃ as, Reads s.heap u p.dat as) ∧ p.dat.canLay0 = true := by
  have lst : ∀ {xs : List P}, p = .lst xs → (∃ a vs, x = .ref a ∧ SqL X.K H a vs ∧ RPs (gm F I0 X) I xs vs) → (∃ as, Reads s.heap u p.dat as) ∧ p.dat.canLay0 = true := by
    rintro xs rfl ⟨a, vs, rfl, hs, t⟩
    cases ru
    obtain ⟨its, rv, ⟨o, n, ho, hc, hdd, hdt⟩, _⟩ := J.list hs
    obtain ⟨as, q1⟩ := RPs.reads J rfl h.sr.imm xs vs its t rv hp
    exact ⟨⟨a :: as, .list ho hc hdt (by simpa using q1)⟩, RPs.lay xs vs t hp⟩
  have lst0 : ∀ {r : R}, RR (gm F I0 X) I σ r x → (D.asL0 ρ S r).map P.lst = some p → (∃ as, Reads s.heap u p.dat as) ∧ p.dat.canLay0 = true := by
    intro r rr e
    obtain ⟨xs, hx, rfl⟩ := Option.map_eq_some_iff.mp e
    obtain ⟨a, vs, h1, h2, h3⟩ := h.asL0 rr hx
    exact lst rfl ⟨a, vs, h1, SqL.of h2, h3⟩
  have pln : ∀ {q : P}, RP (gm F I0 X) I q x → q = p → (∃ as, Reads s.heap u p.dat as) ∧ p.dat.canLay0 = true := by
    rintro q rq rfl
    exact ⟨RP.reads (G := gm F I0 X) J rfl h.sr.imm _ x u rq ru hp, RP.lay _ x rq hp⟩
  cases r with
  | loc i => exact lst0 rr e
  | v q =>
    cases q with
    | ref a => exact lst0 rr e
    | _ => exact pln rr (Option.some.inj e)
end

/-! ### arithmetic -/
def mulOk (i j : Int) : Prop := CMul i j ∨ CMulW i j
def addD : R → R → Env → Store → K1 → Prop
  | .v (.int i), .v (.int j), _, _, k => k (.int (i + j))
  | .v (.str s), .v (.str t), _, _, k => s.length + t.length ≤ sizeLine ∧ k (.str (s ++ t))
  | .v (.tup xs), .v (.tup ys), _, _, k => xs.length + ys.length ≤ sizeLine ∧ k (.tup (xs ++ ys))
  | a, b, ρ, S, k => ∃ xs ys, asL0 ρ S a = some xs ∧ asL0 ρ S b = some ys ∧ xs.length + ys.length ≤ sizeLine ∧ k (.lst (xs ++ ys))
def ii (C : Int → Int → Prop) (f : Int → Int → P) : R → R → Env → Store → K1 → Prop
  | .v (.int i), .v (.int j), _, _, k => C i j ∧ k (f i j)
  | _, _, _, _, _ => False
def mulD : R → R → Env → Store → K1 → Prop
  | .v (.int i), .v (.int j), _, _, k => mulOk i j ∧ k (.int (i * j))
  | .v (.tup xs), .v (.int j), _, _, k => xs ≠ [] ∧ 2 ≤ j ∧ j ≤ 1000 ∧ xs.length ≤ 1000 ∧ k (.tup (List.replicate j.toNat xs).flatten)
  | a, .v (.int j), ρ, S, k => ∃ xs, asL0 ρ S a = some xs ∧ -(2 ^ 63) ≤ j ∧ j < 2 ^ 63 ∧ xs.length * j.toNat ≤ sizeLine ∧ k (.lst (List.replicate j.toNat xs).flatten)
  | _, _, _, _, _ => False
section
variable {X : Cx}
theorem cat_strOk {s t : Str} (h1 : PyData.strOk s = true) (h2 : PyData.strOk t = true) : PyData.strOk (s ++ t) = true := by
  have e : (s ++ t).cps = s.cps ++ t.cps := rfl
  unfold PyData.strOk at *
  rw [e, Array.all_append, h1, h2] <;> rfl
theorem cat_len {s t : Str} : (s ++ t).length = s.length + t.length := by
  show (s.cps ++ t.cps).size = _
  rw [Array.size_append] <;> rfl
theorem o_ii {f : Value → Value → Sem Value} {C : Int → Int → Prop} {g : Int → Int → V} {p : Int → Int → P} (h : OpR X f (rI C g)) (hp : ∀ (G : Gm) (I : Hp) i j, RP G I (p i j) (g i j)) : Op2 X f (ii C p) := by
  refine Op2.of h ?_
  intro F I0 ρ S I σ H x y a b k Q R ra rb q post
  unfold ii at q
  split at q
  · rename_i i j
    cases ra; cases rb
    exact ⟨i, j, rfl, rfl, q.1, post _ _ _ _ Le.refl R (hp _ _ _ _) q.2⟩
  · exact q.elim
theorem o_ii0 {f : Value → Value → Sem Value} {g : Int → Int → V} {p : Int → Int → P} (h : OpR X f (rI0 g)) (hp : ∀ (G : Gm) (I : Hp) i j, RP G I (p i j) (g i j)) : Op2 X f (ii (fun _ _ => True) p) := by
  refine Op2.of h ?_
  intro F I0 ρ S I σ H x y a b k Q R ra rb q post
  unfold ii at q
  split at q
  · rename_i i j
    cases ra; cases rb
    exact ⟨i, j, rfl, rfl, post _ _ _ _ Le.refl R (hp _ _ _ _) q.2⟩
  · exact q.elim
abbrev subD := ii (fun _ _ => True) fun i j => .int (i - j)
abbrev modD := ii (fun _ j => 0 < j) fun i j => .int (i % j)
abbrev fdivD := ii CDivW fun i j => .int (i / j)
abbrev powD := ii CPow fun i j => .int (i ^ j.toNat)
theorem o_sub : Op2 X (binaryOp .Sub) subD := o_ii0 op_sub fun _ _ _ _ => rfl
theorem o_mod : Op2 X (binaryOp .Mod) modD := o_ii op_mod fun _ _ _ _ => rfl
theorem o_fdiv : Op2 X (binaryOp .FloorDiv) fdivD := o_ii op_fdivW fun _ _ _ _ => rfl
theorem o_pow : Op2 X (binaryOp .Pow) powD := o_ii op_pow fun _ _ _ _ => rfl
theorem o_add : Op2 X (binaryOp .Add) addD := by
  refine Op2.of (OpR.or op_add (OpR.or op_add_str (OpR.or op_catN op_cat))) ?_
  intro F I0 ρ S I σ H x y a b k Q R ra rb q post
  unfold addD at q
  split at q
  · rename_i i j
    cases ra; cases rb
    exact .inl ⟨i, j, rfl, rfl, post _ _ _ _ Le.refl R .mkI q⟩
  · rename_i i j
    obtain ⟨rfl, l1, o1⟩ := ra
    obtain ⟨rfl, l2, o2⟩ := rb
    exact .inr (.inl ⟨i, j, rfl, rfl, q.1, post _ _ _ _ Le.refl R (.mkS (by rw [cat_len]; exact q.1) (cat_strOk o1 o2)) q.2⟩)
  · rename_i xs ys
    obtain ⟨a, vs, rfl, h1, t1⟩ := id ra
    obtain ⟨b, ws, rfl, h2, t2⟩ := id rb
    have e1 := t1.length
    have e2 := t2.length
    have g1 := R.sr.imm.sqt h1.sqt
    have g2 := R.sr.imm.sqt h2.sqt
    refine .inr (.inr (.inl ⟨a, b, vs, ws, rfl, rfl, ⟨g1, g2⟩, by omega, fun e => ?_, fun _ e => ?_, fun _ _ p ob hp hd => ?_⟩))
    · have z : xs = [] := List.length_eq_zero_iff.mp (by rw [e1, e]; rfl)
      subst z
      exact post _ _ _ _ Le.refl R rb q.2
    · have z : ys = [] := List.length_eq_zero_iff.mp (by rw [e2, e]; rfl)
      subst z
      refine post _ _ _ _ Le.refl R ra ?_
      have := q.2
      rwa [List.append_nil] at this
    · obtain ⟨l, R'⟩ := R.frz (o := .frz ob (.tup (vs ++ ws))) hp
      exact post _ _ _ _ l R' (.mkT hd upd_same ((RPs.mono l _ _ t1).append (RPs.mono l _ _ t2))) q.2
  · obtain ⟨xs, ys, e1, e2, hz, q⟩ := q
    obtain ⟨a, vs, rfl, h1, t1⟩ := R.asL0 ra e1
    obtain ⟨b, ws, rfl, h2, t2⟩ := R.asL0 rb e2
    have e1 := t1.length
    have e2 := t2.length
    refine .inr (.inr (.inr ⟨a, b, vs, ws, rfl, rfl, h1, h2, by omega, fun p hp => ?_⟩))
    obtain ⟨l, R'⟩ := R.frz (o := .lst (vs ++ ws)) hp
    exact post _ _ _ _ l R' (.mkL upd_same ((RPs.mono l _ _ t1).append (RPs.mono l _ _ t2))) q
theorem o_mul : Op2 X (binaryOp .Mult) mulD := by
  refine Op2.of (OpR.or op_mul (OpR.or op_mulW (OpR.or op_repN op_rep))) ?_
  intro F I0 ρ S I σ H x y a b k Q R ra rb q post
  unfold mulD at q
  split at q
  · rename_i i j
    cases ra; cases rb
    rcases q.1 with c | c
    · exact .inl ⟨i, j, rfl, rfl, c, post _ _ _ _ Le.refl R .mkI q.2⟩
    · exact .inr (.inl ⟨i, j, rfl, rfl, c, post _ _ _ _ Le.refl R .mkI q.2⟩)
  · rename_i xs j
    cases rb
    obtain ⟨a, vs, rfl, h1, t1⟩ := ra
    have e1 := t1.length
    obtain ⟨q1, q2, q3, q4, q5⟩ := q
    refine .inr (.inr (.inl ⟨a, j, vs, ⟨rfl, rfl⟩, R.sr.imm.sqt h1.sqt, ?_, ⟨q2, q3⟩, by omega, fun p ob hp hd => ?_⟩))
    · rintro rfl
      exact q1 (List.length_eq_zero_iff.mp (by rw [e1] <;> rfl))
    · obtain ⟨l, R'⟩ := R.frz (o := .frz ob (.tup (List.replicate j.toNat vs).flatten)) hp
      exact post _ _ _ _ l R' (.mkT hd upd_same ((RPs.mono l _ _ t1).rep _)) q5
  · rename_i j _ _
    cases rb
    obtain ⟨xs, e1, q2, q3, q4, q5⟩ := q
    obtain ⟨a, vs, rfl, h1, t1⟩ := R.asL0 ra e1
    have e1 := t1.length
    refine .inr (.inr (.inr ⟨a, j, vs, rfl, rfl, h1, q2, q3, by rw [← e1]; exact q4, fun p hp => ?_⟩))
    obtain ⟨l, R'⟩ := R.frz (o := .lst (List.replicate j.toNat vs).flatten) hp
    exact post _ _ _ _ l R' (.mkL upd_same ((RPs.mono l _ _ t1).rep _)) q5
  · exact q.elim
end
end D
/-! D2: comparisons, truth, tests, names, displays, subscripts, built-in calls by deep values. -/
namespace D
open PySem PySem.Spec L2

/-! ### comparisons -/
def eqD : R → R → Env → Store → K1 → Prop := fun a b ρ S k => match asD ρ S a, asD ρ S b with
  | some p, some q => eqOk p q = true ∧ k (.bl (eqP p q))
  | _, _ => False
def neD : R → R → Env → Store → K1 → Prop := fun a b ρ S k => match asD ρ S a, asD ρ S b with
  | some p, some q => eqOk p q = true ∧ k (.bl (!eqP p q))
  | _, _ => False
def ltS (s t : Str) : Bool := decide (s.cps.toList < t.cps.toList)
/-- an order of ints, of texts -/
def ordD (f : Int → Int → Bool) (g : Str → Str → Bool) : R → R → Env → Store → K1 → Prop
  | .v (.int i), .v (.int j), _, _, k => k (.bl (f i j))
  | .v (.str s), .v (.str t), _, _, k => k (.bl (g s t))
  | _, _, _, _, _ => False
abbrev ltD := ordD (fun i j => decide (i < j)) ltS
abbrev leD := ordD (fun i j => decide (i ≤ j)) fun s t => !ltS t s
abbrev gtD := ordD (fun i j => decide (j < i)) fun s t => ltS t s
abbrev geD := ordD (fun i j => decide (j ≤ i)) fun s t => !ltS s t
def isNon : P → Bool
  | .non => true
  | _ => false
def isD : R → R → Env → Store → K1 → Prop
  | .v p, .v .non, _, _, k => k (.bl (isNon p))
  | .v (.bl a), .v (.bl b), _, _, k => k (.bl (a == b))
  | _, _, _, _, _ => False
def nisD : R → R → Env → Store → K1 → Prop
  | .v p, .v .non, _, _, k => k (.bl (!isNon p))
  | .v (.bl a), .v (.bl b), _, _, k => k (.bl (!(a == b)))
  | _, _, _, _, _ => False
/-- one text in another -/
def subS (s t : Str) : Bool := !(Builtin.Str.occurrences t s 0 t.length 1).isEmpty
def memP (p : P) (xs : List P) : Bool := xs.any fun q => eqP q p
def inD : R → R → Env → Store → K1 → Prop := fun a b ρ S k => match a, b with
  | .v (.str s), .v (.str t) => k (.bl (subS s t))
  | a, b => match asD ρ S a, asQ ρ S b with
    | some p, some xs => p.isE = true ∧ P.isEs xs = true ∧ p.dep ≤ 50 ∧ k (.bl (memP p xs))
    | _, _ => False
def ninD : R → R → Env → Store → K1 → Prop := fun a b ρ S k => match a, b with
  | .v (.str s), .v (.str t) => k (.bl (!subS s t))
  | a, b => match asD ρ S a, asQ ρ S b with
    | some p, some xs => p.isE = true ∧ P.isEs xs = true ∧ p.dep ≤ 50 ∧ k (.bl (!memP p xs))
    | _, _ => False
section
variable {X : Cx}
theorem eqOk_of {p q : P} (h : eqOk p q = true) : p.isE = true ∧ q.isE = true ∧ min p.dep q.dep ≤ 50 := by
  unfold eqOk at h
  rw [Bool.and_eq_true, Bool.and_eq_true] at h
  exact ⟨h.1.1, h.1.2, of_decide_eq_true h.2⟩
theorem o_eq (hu : X.A.units + 64 < cLine) : Op2 X (compareOp .Eq) eqD := by
  intro F I0 pins s ρ S I σ τ H x y v u a b k Q J R ra rb rx ry q post
  unfold eqD at q
  split at q
  · rename_i p r e1 e2
    obtain ⟨c1, c2, c3⟩ := eqOk_of q.1
    obtain ⟨⟨as, r1⟩, l1⟩ := Rel.asD J R ra e1 rx c1
    obtain ⟨⟨bs, r2⟩, l2⟩ := Rel.asD J R rb e2 ry c2
    have c4 : min p.dat.depth r.dat.depth ≤ 50 := c3
    exact SeqAt.compareEq_reads r1 r2 l1 l2 (by omega) ⟨.bl _, H, J, rfl, post _ _ _ _ Le.refl R .mkB q.2⟩
  · exact q.elim
theorem o_ne (hu : X.A.units + 64 < cLine) : Op2 X (compareOp .NotEq) neD := by
  intro F I0 pins s ρ S I σ τ H x y v u a b k Q J R ra rb rx ry q post
  unfold neD at q
  split at q
  · rename_i p r e1 e2
    obtain ⟨c1, c2, c3⟩ := eqOk_of q.1
    obtain ⟨⟨as, r1⟩, l1⟩ := Rel.asD J R ra e1 rx c1
    obtain ⟨⟨bs, r2⟩, l2⟩ := Rel.asD J R rb e2 ry c2
    have c4 : min p.dat.depth r.dat.depth ≤ 50 := c3
    exact SeqAt.compareNe_reads r1 r2 l1 l2 (by omega) ⟨.bl _, H, J, rfl, post _ _ _ _ Le.refl R .mkB q.2⟩
  · exact q.elim
theorem o_ord {op : CmpOp} {f : Int → Int → Bool} {g : Str → Str → Bool} (h1 : OpR X (compareOp op) (rI0 fun i j => .bl (f i j))) (h2 : OpR X (compareOp op) (fun x y H Q => ∃ i j, x = .str i ∧ y = .str j ∧ Q (.bl (g i j)) H)) : Op2 X (compareOp op) (ordD f g) := by
  refine Op2.of (OpR.or h1 h2) ?_
  intro F I0 ρ S I σ H x y a b k Q R ra rb q post
  unfold ordD at q
  split at q
  · rename_i i j
    cases ra; cases rb
    exact .inl ⟨i, j, rfl, rfl, post _ _ _ _ Le.refl R .mkB q⟩
  · rename_i i j
    cases ra.1; cases rb.1
    exact .inr ⟨i, j, rfl, rfl, post _ _ _ _ Le.refl R .mkB q⟩
  · exact q.elim
theorem o_lt : Op2 X (compareOp .Lt) ltD := o_ord op_lt op_lt_str
theorem o_le : Op2 X (compareOp .LtE) leD := o_ord op_le op_le_str
theorem o_gt : Op2 X (compareOp .Gt) gtD := o_ord op_gt op_gt_str
theorem o_ge : Op2 X (compareOp .GtE) geD := o_ord op_ge op_ge_str
theorem isNon_of {G : Gm} {I : Hp} {p : P} {x : V} (rr : RP G I p x) : decide (x = .non) = isNon p := by
  cases p with
  | non => cases rr; rfl
  | bl _ => cases rr; rfl
  | int _ => cases rr; rfl
  | str _ => cases rr.1; rfl
  | ty _ => cases rr; rfl
  | ref _ => cases rr; rfl
  | tup _ => obtain ⟨_, _, rfl, _⟩ := rr; rfl
  | row _ => obtain ⟨_, _, rfl, _⟩ := rr; rfl
  | lst _ => obtain ⟨_, _, rfl, _⟩ := rr; rfl
  | scr _ => obtain ⟨_, _, rfl, _⟩ := rr; rfl
  | dct _ => obtain ⟨_, _, rfl, _⟩ := rr; rfl
  | ins _ _ => obtain ⟨_, _, _, rfl, _⟩ := rr; rfl
  | cl _ => cases rr; rfl
theorem o_is : Op2 X (compareOp .Is) isD := by
  refine Op2.of (OpR.or op_isN op_is_bl) ?_
  intro F I0 ρ S I σ H x y a b k Q R ra rb q post
  unfold isD at q
  split at q
  · cases rb
    refine .inl ⟨rfl, ?_⟩
    rw [isNon_of ra]
    exact post _ _ _ _ Le.refl R .mkB q
  · rename_i i j
    cases ra; cases rb
    refine .inr ⟨i, j, rfl, rfl, ?_⟩
    rw [show decide (i = j) = (i == j) by cases i <;> cases j <;> rfl]
    exact post _ _ _ _ Le.refl R .mkB q
  · exact q.elim
theorem o_nis : Op2 X (compareOp .IsNot) nisD := by
  refine Op2.of (OpR.or op_notN op_isnot_bl) ?_
  intro F I0 ρ S I σ H x y a b k Q R ra rb q post
  unfold nisD at q
  split at q
  · cases rb
    refine .inl ⟨rfl, ?_⟩
    rw [isNon_of ra]
    exact post _ _ _ _ Le.refl R .mkB q
  · rename_i i j
    cases ra; cases rb
    refine .inr ⟨i, j, rfl, rfl, ?_⟩
    rw [show decide (i = j) = (i == j) by cases i <;> cases j <;> rfl]
    exact post _ _ _ _ Le.refl R .mkB q
  · exact q.elim
theorem dep_dats : ∀ (xs : List P) (p : P) , (P.dats xs).any (fun y => PyData.eqv y p.dat) = memP p xs
  | [], _ => rfl
  | x :: xs, p => by
    show (PyData.eqv x.dat p.dat || (P.dats xs).any _) = (eqP x p || memP p xs)
    rw [dep_dats xs p]; rfl
/-- a list or tuple that is read, as data -/
theorem Rel.asQD {F I0 : Hp} {pins : List (Addr × Obj)} {s : Shared} {ρ : Env} {S : Store} {I : Hp} {σ τ : L2.St} {H : Hp} (J : Inv X pins τ H s) (h : Rel (gm F I0 X) ρ S I σ H) {r : D.R} {x : V} {u : Value} {xs : List P} (rr : RR (gm F I0 X) I σ r x) (e : D.asQ ρ S r = some xs) (ru : RelV x u) (hp : P.isEs xs = true) :
    (∃ as, Reads s.heap u (.list (P.dats xs)) as ∨ Reads s.heap u (.tuple (P.dats xs)) as) ∧ PyData.canLayAll0 (P.dats xs) = true := by
  obtain ⟨a, vs, rfl, hs, t⟩ := h.asQ rr e
  cases ru
  rcases hs with hs | hs
  · obtain ⟨its, rv, ⟨o, n, ho, hc, hdd, hdt⟩, _⟩ := J.list hs
    obtain ⟨as, q1⟩ := RPs.reads (G := gm F I0 X) J rfl h.sr.imm xs vs its t rv hp
    exact ⟨⟨a :: as, .inl (.list ho hc hdt (by simpa using q1))⟩, RPs.lay xs vs t hp⟩
  · obtain ⟨its, rv, ⟨o, ho, hc, n, hdt⟩, _⟩ := J.tuple hs
    obtain ⟨as, q1⟩ := RPs.reads (G := gm F I0 X) J rfl h.sr.imm xs vs its t rv hp
    exact ⟨⟨as, .inr (.tuple ho hc hdt (by simpa using q1))⟩, RPs.lay xs vs t hp⟩
theorem o_in (hu : X.A.units + 64 < cLine) : Op2 X (compareOp .In) inD := by
  intro F I0 pins s ρ S I σ τ H x y v u a b k Q J R ra rb rx ry q post
  unfold inD at q
  split at q
  · rename_i i j
    cases ra.1; cases rb.1
    exact op_in_str pins s τ H _ _ v u Q J rx ry ⟨i, j, rfl, rfl, post _ _ _ _ Le.refl R .mkB q⟩
  · split at q
    · rename_i p xs e1 e2
      obtain ⟨c1, c2, c3, q⟩ := q
      obtain ⟨⟨as, r1⟩, l1⟩ := Rel.asD J R ra e1 rx c1
      obtain ⟨⟨bs, r2⟩, l2⟩ := Rel.asQD J R rb e2 ry c2
      have c4 : p.dat.depth ≤ 50 := c3
      have c5 : min (PyData.depthAll (P.dats xs)) p.dat.depth ≤ p.dat.depth := Nat.min_le_right _ _
      have fin : EP X pins τ Q (.bool ((P.dats xs).any fun y => PyData.eqv y p.dat)) s := ⟨.bl _, H, J, rfl, by rw [dep_dats]; exact post _ _ _ _ Le.refl R .mkB q⟩
      rcases r2 with r2 | r2
      · exact SeqAt.in_list_reads r2 r1 l2 l1 (by omega) fin
      · exact SeqAt.in_tuple_reads r2 r1 l2 l1 (by omega) fin
    · exact q.elim
theorem o_nin (hu : X.A.units + 64 < cLine) : Op2 X (compareOp .NotIn) ninD := by
  intro F I0 pins s ρ S I σ τ H x y v u a b k Q J R ra rb rx ry q post
  unfold ninD at q
  split at q
  · rename_i i j
    cases ra.1; cases rb.1
    refine op_notIn_str pins s τ H _ _ v u Q J rx ry ⟨i, j, rfl, rfl, post _ _ _ _ Le.refl R .mkB q⟩
  · split at q
    · rename_i p xs e1 e2
      obtain ⟨c1, c2, c3, q⟩ := q
      obtain ⟨⟨as, r1⟩, l1⟩ := Rel.asD J R ra e1 rx c1
      obtain ⟨⟨bs, r2⟩, l2⟩ := Rel.asQD J R rb e2 ry c2
      have c4 : p.dat.depth ≤ 50 := c3
      have c5 : min (PyData.depthAll (P.dats xs)) p.dat.depth ≤ p.dat.depth := Nat.min_le_right _ _
      have fin : EP X pins τ Q (.bool (!(P.dats xs).any fun y => PyData.eqv y p.dat)) s := ⟨.bl _, H, J, rfl, by rw [dep_dats]; exact post _ _ _ _ Le.refl R .mkB q⟩
      rcases r2 with r2 | r2
      · exact SeqAt.notIn_list_reads r2 r1 l2 l1 (by omega) fin
      · exact SeqAt.notIn_tuple_reads r2 r1 l2 l1 (by omega) fin
    · exact q.elim
end

/-! ### truth -/
def truD (ρ : Env) (S : Store) : R → Option Bool
  | .v .non => some false
  | .v (.bl b) => some b
  | .v (.int i) => some (i != 0)
  | .v (.str s) => some ((s.length : Int) != 0)
  | .v (.dct kvs) => some (!kvs.isEmpty)
  | r => (asQ ρ S r).map fun xs => !xs.isEmpty
theorem isEmpty_RPs {G : Gm} {I : Hp} {xs : List P} {vs : List V} (t : RPs G I xs vs) : (!vs.isEmpty) = !xs.isEmpty := by
  cases xs with
  | nil => cases t; rfl
  | cons p ps => obtain ⟨x, q, rfl, _⟩ := t; rfl
theorem Rel.tru {X : Cx} {F I0 : Hp} {ρ : Env} {S : Store} {I : Hp} {σ : L2.St} {H : Hp} (R : Rel (gm F I0 X) ρ S I σ H) {r : D.R} {x : V} {b : Bool} (rr : RR (gm F I0 X) I σ r x) (e : truD ρ S r = some b) : TruV X.K x H b := by
  unfold truD at e
  split at e
  · cases e; cases rr; rfl
  · cases e; cases rr; rfl
  · cases e; cases rr; rfl
  · cases e; cases rr.1; exact ⟨rr.2.1, rfl⟩
  · cases e
    rename_i kvs
    obtain ⟨a, ds, rfl, h, t⟩ := rr
    refine .inr (.inr ⟨ds, R.sr.imm _ _ h, ?_⟩)
    cases kvs with
    | nil => cases t; rfl
    | cons p ps => obtain ⟨k, p⟩ := p; obtain ⟨c, x, q, rfl, _⟩ := t; rfl
  · obtain ⟨xs, hx, rfl⟩ := Option.map_eq_some_iff.mp e
    obtain ⟨a, vs, rfl, hs, t⟩ := R.asQ rr hx
    rcases hs with hs | hs
    · exact .inl ⟨vs, hs, (isEmpty_RPs t).symm⟩
    · exact .inr (.inl ⟨vs, hs, (isEmpty_RPs t).symm⟩)

/-! ### tests -/
abbrev DB := Env → Store → (Bool → Env → Store → Prop) → Prop
/-- a value's truth -/
def BTru (T : DT) : DB := fun ρ S Q => T ρ S fun r ρ1 S1 => match truD ρ1 S1 r with
  | some b => Q b ρ1 S1
  | none => False
def B2 (d : R → R → Env → Store → K1 → Prop) (ta tb : DT) : DB := fun ρ S Q => T2 d ta tb ρ S fun r ρ1 S1 => match r with
  | .v (.bl b) => Q b ρ1 S1
  | _ => False
def BAnd (t u : DB) : DB := fun ρ S Q => t ρ S fun c ρ1 S1 => if c = true then u ρ1 S1 Q else Q false ρ1 S1
def BOr (t u : DB) : DB := fun ρ S Q => t ρ S fun c ρ1 S1 => if c = true then Q true ρ1 S1 else u ρ1 S1 Q
def BNot (t : DB) : DB := fun ρ S Q => t ρ S fun c ρ1 S1 => Q (!c) ρ1 S1
def TIf (t : DB) (a b : DT) : DT := fun ρ S Q => t ρ S fun c ρ1 S1 => if c = true then a ρ1 S1 Q else b ρ1 S1 Q
/-- a and b, a or b, not a, as values -/
def TAnd (a b : DT) : DT := fun ρ S Q => a ρ S fun r ρ1 S1 => match truD ρ1 S1 r with
  | some true => b ρ1 S1 Q
  | some false => Q r ρ1 S1
  | none => False
def TOr (a b : DT) : DT := fun ρ S Q => a ρ S fun r ρ1 S1 => match truD ρ1 S1 r with
  | some true => Q r ρ1 S1
  | some false => b ρ1 S1 Q
  | none => False
def TNot (a : DT) : DT := fun ρ S Q => a ρ S fun r ρ1 S1 => match truD ρ1 S1 r with
  | some c => Q (.v (.bl (!c))) ρ1 S1
  | none => False
section
variable {X : Cx} {F I0 : Hp} {a b c : Expr} {Ta Tb : DT} {Ba Bb : DB} {pos : Pos} {rest : List Expr}
abbrev DW (F I0 : Hp) (X : Cx) (e : Expr) (T : DB) : Prop := PW X e (trT (gm F I0 X) T)
theorem b_tru (ha : DE F I0 X a Ta) (he : ∀ whole, isTrue a X.env whole = (do let v ← whole; standAt a.pos; holding [v] (truthy v))) : DTs F I0 X a (BTru Ta) := by
  refine (pt_truth ha he).weak fun σ H Q h => ?_
  obtain ⟨ρ, S, I, Q0, R, h, post⟩ := h
  refine ⟨ρ, S, I, _, R, h, fun x H' r ρ' S' I' l R' rr q => ?_⟩
  split at q
  · rename_i k e
    exact ⟨k, R'.tru rr e, post _ _ _ _ _ l R' q⟩
  · exact q.elim
theorem b_of2 {d : R → R → Env → Store → K1 → Prop} {r : R2} (hr : ∀ x y H Q, rD2 (gm F I0 X) d x y H Q → r x y H Q) : ∀ σ H Q, trT (gm F I0 X) (B2 d Ta Tb) σ H Q → tTest (tOp r (tr (gm F I0 X) Ta) (tr (gm F I0 X) Tb)) σ H Q := by
  intro σ H Q ⟨ρ, S, I, Q0, R, h, post⟩
  refine weak2 hr σ H _ ⟨ρ, S, I, _, R, h, fun x H' r ρ' S' I' l R' rr q => ?_⟩
  split at q
  · rename_i k
    exact ⟨k, rr, post _ _ _ _ _ l R' q⟩
  · exact q.elim
theorem b_cmp {op : CmpOp} {d : R → R → Env → Store → K1 → Prop} (ho : Op2 X (compareOp op) d) (ha : DE F I0 X a Ta) (hb : DE F I0 X b Tb) (hm : behindInMarks op b = false) : DTs F I0 X (.Compare a [op] [b] pos) (B2 d Ta Tb) :=
  (pt_cmpR (ho.r F I0) ha hb hm).weak (b_of2 fun _ _ _ _ h => h)
/-- a < b < c -/
def TCh (d e : R → R → Env → Store → K1 → Prop) (ta tb tc : DT) : DT := fun ρ S Q => ta ρ S fun a ρ1 S1 => tb ρ1 S1 fun b ρ2 S2 => d a b ρ2 S2 fun z => match z with
  | .bl true => tc ρ2 S2 fun c ρ3 S3 => e b c ρ3 S3 fun p => Q (.v p) ρ3 S3
  | .bl false => Q (.v (.bl false)) ρ2 S2
  | _ => False
def BCh (d e : R → R → Env → Store → K1 → Prop) (ta tb tc : DT) : DB := fun ρ S Q => TCh d e ta tb tc ρ S fun r ρ1 S1 => match r with
  | .v (.bl b) => Q b ρ1 S1
  | _ => False
theorem weakCh {d e : R → R → Env → Store → K1 → Prop} {Tc : DT} : ∀ σ H Q, tr (gm F I0 X) (TCh d e Ta Tb Tc) σ H Q → tChain (rD2 (gm F I0 X) d) (rD2 (gm F I0 X) e) (tr (gm F I0 X) Ta) (tr (gm F I0 X) Tb) (tr (gm F I0 X) Tc) σ H Q := by
  intro σ H Q ⟨ρ, S, I, Q0, R, h, post⟩
  refine ⟨ρ, S, I, _, R, h, fun x H1 a ρ1 S1 I1 l1 R1 ra q1 => ?_⟩
  refine ⟨ρ1, S1, I1, _, R1, q1, fun y H2 b ρ2 S2 I2 l2 R2 rb q2 => ?_⟩
  refine ⟨ρ2, S2, I2, σ, a, b, _, R2, ra.mono l2, rb, q2, fun z H3 p I3 l3 R3 rp kp => ?_⟩
  split at kp
  · cases rp
    refine ⟨true, rfl, ?_⟩
    rw [if_pos rfl]
    refine ⟨ρ2, S2, I3, _, R3, kp, fun z H4 c ρ4 S4 I4 l4 R4 rc q4 => ?_⟩
    exact ⟨ρ4, S4, I4, σ, b, c, _, R4, rb.mono (l3.trans l4), rc, q4, fun z H' p I' l R' rp kp => post z H' (.v p) ρ4 S4 I' (l1.trans (l2.trans (l3.trans (l4.trans l)))) R' rp kp⟩
  · cases rp
    refine ⟨false, rfl, ?_⟩
    rw [if_neg (by decide)]
    exact post _ _ (.v (.bl false)) _ _ _ (l1.trans (l2.trans l3)) R3 (RP.mkB : RP (gm F I0 X) I3 (.bl false) (.bl false)) kp
  · exact kp.elim
theorem d_ch {op op' : CmpOp} {d e : R → R → Env → Store → K1 → Prop} {Tc : DT} (ho : Op2 X (compareOp op) d) (ho' : Op2 X (compareOp op') e) (ha : DE F I0 X a Ta) (hb : DE F I0 X b Tb) (hc : DE F I0 X c Tc) (hm : lastMarks [op, op'] [b, c] = false := by with_unfolding_all rfl) :
    DE F I0 X (.Compare a [op, op'] [b, c] pos) (TCh d e Ta Tb Tc) := (pe_chain (ho.r F I0) (ho'.r F I0) ha hb hc hm).weak weakCh
theorem b_ch {op op' : CmpOp} {d e : R → R → Env → Store → K1 → Prop} {Tc : DT} (ho : Op2 X (compareOp op) d) (ho' : Op2 X (compareOp op') e) (ha : DE F I0 X a Ta) (hb : DE F I0 X b Tb) (hc : DE F I0 X c Tc) (hm : lastMarks [op, op'] [b, c] = false := by with_unfolding_all rfl) :
    DTs F I0 X (.Compare a [op, op'] [b, c] pos) (BCh d e Ta Tb Tc) := by
  refine (pt_chain (ho.r F I0) (ho'.r F I0) ha hb hc hm).weak fun σ H Q h => ?_
  obtain ⟨ρ, S, I, Q0, R, h, post⟩ := h
  refine weakCh σ H _ ⟨ρ, S, I, _, R, h, fun x H' r ρ' S' I' l R' rr q => ?_⟩
  split at q
  · rename_i k
    exact ⟨k, rr, post _ _ _ _ _ l R' q⟩
  · exact q.elim
theorem w_and1 (ha : DTs F I0 X a Ba) : DW F I0 X (.BoolOp .And [a] pos) Ba := pw_and1 ha
theorem w_or1 (ha : DTs F I0 X a Ba) : DW F I0 X (.BoolOp .Or [a] pos) Ba := pw_or1 ha
theorem w_and (ha : DTs F I0 X a Ba) (hb : DW F I0 X (.BoolOp .And (b :: rest) pos) Bb) : DW F I0 X (.BoolOp .And (a :: b :: rest) pos) (BAnd Ba Bb) := by
  refine ⟨fun whole pins s σ H Q J h => (pw_and ha hb).run whole pins s σ H Q J ?_⟩
  obtain ⟨ρ, S, I, Q0, R, h, post⟩ := h
  refine ⟨ρ, S, I, _, R, h, fun c H' ρ' S' I' l R' q => ?_⟩
  cases c with
  | true => exact ⟨ρ', S', I', Q0, R', q, fun c H2 ρ2 S2 I2 l2 => post c H2 ρ2 S2 I2 (l.trans l2)⟩
  | false => exact post _ _ _ _ _ l R' q
theorem w_or (ha : DTs F I0 X a Ba) (hb : DW F I0 X (.BoolOp .Or (b :: rest) pos) Bb) : DW F I0 X (.BoolOp .Or (a :: b :: rest) pos) (BOr Ba Bb) := by
  refine ⟨fun whole pins s σ H Q J h => (pw_or ha hb).run whole pins s σ H Q J ?_⟩
  obtain ⟨ρ, S, I, Q0, R, h, post⟩ := h
  refine ⟨ρ, S, I, _, R, h, fun c H' ρ' S' I' l R' q => ?_⟩
  cases c with
  | false => exact ⟨ρ', S', I', Q0, R', q, fun c H2 ρ2 S2 I2 l2 => post c H2 ρ2 S2 I2 (l.trans l2)⟩
  | true => exact post _ _ _ _ _ l R' q
theorem b_not (ha : DTs F I0 X a Ba) : DTs F I0 X (.UnaryOp .Not a pos) (BNot Ba) := by
  refine (pt_not ha).weak fun σ H Q h => ?_
  obtain ⟨ρ, S, I, Q0, R, h, post⟩ := h
  exact ⟨ρ, S, I, _, R, h, fun c H' ρ' S' I' l R' q => post _ _ _ _ _ l R' q⟩
theorem d_if (hc : DTs F I0 X c Ba) (ha : DE F I0 X a Ta) (hb : DE F I0 X b Tb) : DE F I0 X (.IfExp c a b pos) (TIf Ba Ta Tb) := by
  refine (pe_ifExp hc ha hb).weak fun σ H Q h => ?_
  obtain ⟨ρ, S, I, Q0, R, h, post⟩ := h
  refine ⟨ρ, S, I, _, R, h, fun c H' ρ' S' I' l R' q => ?_⟩
  cases c with
  | true => exact ⟨ρ', S', I', Q0, R', q, fun c H2 r ρ2 S2 I2 l2 => post c H2 r ρ2 S2 I2 (l.trans l2)⟩
  | false => exact ⟨ρ', S', I', Q0, R', q, fun c H2 r ρ2 S2 I2 l2 => post c H2 r ρ2 S2 I2 (l.trans l2)⟩
theorem d_one {op : BoolOp} (ha : DE F I0 X a Ta) : DE F I0 X (.BoolOp op [a] pos) Ta := pe_one ha
theorem d_and (ha : DE F I0 X a Ta) (hb : DE F I0 X (.BoolOp .And (b :: rest) pos) Tb) : DE F I0 X (.BoolOp .And (a :: b :: rest) pos) (TAnd Ta Tb) := by
  refine (pe_andT ha hb).weak fun σ H Q h => ?_
  obtain ⟨ρ, S, I, Q0, R, h, post⟩ := h
  refine ⟨ρ, S, I, _, R, h, fun x H' r ρ' S' I' l R' rr q => ?_⟩
  split at q
  · rename_i e
    refine ⟨true, R'.tru rr e, ?_⟩
    exact ⟨ρ', S', I', Q0, R', q, fun c H2 r ρ2 S2 I2 l2 => post c H2 r ρ2 S2 I2 (l.trans l2)⟩
  · rename_i e
    exact ⟨false, R'.tru rr e, post _ _ _ _ _ _ l R' rr q⟩
  · exact q.elim
theorem d_or (ha : DE F I0 X a Ta) (hb : DE F I0 X (.BoolOp .Or (b :: rest) pos) Tb) : DE F I0 X (.BoolOp .Or (a :: b :: rest) pos) (TOr Ta Tb) := by
  refine (pe_orT ha hb).weak fun σ H Q h => ?_
  obtain ⟨ρ, S, I, Q0, R, h, post⟩ := h
  refine ⟨ρ, S, I, _, R, h, fun x H' r ρ' S' I' l R' rr q => ?_⟩
  split at q
  · rename_i e
    exact ⟨true, R'.tru rr e, post _ _ _ _ _ _ l R' rr q⟩
  · rename_i e
    refine ⟨false, R'.tru rr e, ?_⟩
    exact ⟨ρ', S', I', Q0, R', q, fun c H2 r ρ2 S2 I2 l2 => post c H2 r ρ2 S2 I2 (l.trans l2)⟩
  · exact q.elim
theorem d_not (ha : DE F I0 X a Ta) : DE F I0 X (.UnaryOp .Not a pos) (TNot Ta) := by
  refine (pe_notT ha).weak fun σ H Q h => ?_
  obtain ⟨ρ, S, I, Q0, R, h, post⟩ := h
  refine ⟨ρ, S, I, _, R, h, fun x H' r ρ' S' I' l R' rr q => ?_⟩
  split at q
  · rename_i k e
    exact ⟨k, R'.tru rr e, post _ _ (.v (.bl (!k))) _ _ _ l R' (RP.mkB : RP (gm F I0 X) I' (.bl (!k)) (.bl (!k))) q⟩
  · exact q.elim
end
end D
/-! D3: names, constants, displays, subscripts, calls of what is built in. -/
namespace D
open PySem PySem.Spec L2

/-! ### deep: names, constants -/
def TC (p : P) : DT := fun ρ S Q => Q (.v p) ρ S
def TV (i : Nat) : DT := fun ρ S Q => match ρ[i]? with
  | some (.v p) => Q (.v p) ρ S
  | some (.own _) => Q (.loc i) ρ S
  | _ => False
/-- the slot's own list is frozen from here on -/
def TF (i : Nat) : DT := fun ρ S Q => match ρ[i]? with
  | some (.own (.lst xs)) => Q (.v (.lst xs)) (ρ.set i (.v (.lst xs))) S
  | _ => False
section
variable {X : Cx} {F I0 : Hp} {a b c : Expr} {Ta Tb Tc : DT} {pos : Pos}
theorem d_var {i : Nat} {x : Str} (hN : X.N[i]? = some x) (hv : Vis X.env.scope x) (hd : (x == ("__debug__" : Str)) = false := by decide) (hcd : (x == ("__classdict__" : Str)) = false := by decide) : DE F I0 X (.Name x pos) (TV i) := by
  refine (pe_var hN hv hd hcd).weak fun σ H Q h => ?_
  obtain ⟨ρ, S, I, Q0, R, h, post⟩ := h
  unfold TV at h
  split at h
  · rename_i p e
    obtain ⟨x, h1, h2⟩ := R.vs i p e
    exact ⟨x, h1, post _ _ (.v p) _ _ _ Le.refl R h2 h⟩
  · rename_i o e
    obtain ⟨a, h1, h2⟩ := R.ow i o e
    exact ⟨.ref a, h1, post _ _ (.loc i) _ _ _ Le.refl R h1 h⟩
  · exact h.elim
theorem Rel.freeze {G : Gm} {ρ : Env} {S : Store} {I : Hp} {σ : L2.St} {H : Hp} (R : Rel G ρ S I σ H) {i : Nat} {xs : List P} (e : ρ[i]? = some (.own (.lst xs))) :
    ∃ a I', σ[i]? = some (some (.ref a)) ∧ Le I I' ∧ Rel G (ρ.set i (.v (.lst xs))) S I' σ H ∧ RP G I' (.lst xs) (.ref a) := by
  obtain ⟨a, h1, ⟨vs, h2, h3⟩, h4, h5, h6⟩ := R.ow i _ e
  have hl : Le I (upd I a (.lst vs)) := Le.upd h4
  have rp : RP G (upd I a (.lst vs)) (.lst xs) (.ref a) := .mkL upd_same (RPs.mono hl _ _ h3)
  refine ⟨a, upd I a (.lst vs), h1, hl, ?_, rp⟩
  have R1 : Rel G (ρ.set i .un) S (upd I a (.lst vs)) σ H := by
    have cut : ∀ {m : Nat} {w : Sl}, w ≠ .un → (ρ.set i .un)[m]? = some w → i ≠ m ∧ ρ[m]? = some w := by
      intro m w hw e
      by_cases c : i = m
      · subst c
        by_cases hi : i < ρ.length
        · rw [List.getElem?_set_self hi] at e; cases e; exact (hw rfl).elim
        · rw [List.getElem?_eq_none (by simpa using hi)] at e; cases e
      · rw [List.getElem?_set_ne c] at e; exact ⟨c, e⟩
    refine ⟨⟨R.sr.i0.trans hl, fun b w q => ?_, R.sr.fr, fun b w q => ?_, fun b w q => ?_⟩, by simpa using R.len, fun j q e' => ?_, fun j w e' => ?_, fun j k w z b hjk e1 e2 h1 h2 => ?_⟩
    · by_cases c : b = a
      · subst c; rw [upd_same] at q; cases q; exact h2
      · rw [upd_ne c] at q; exact R.sr.imm b w q
    · obtain ⟨k1, k2⟩ := R.sr.fi b w q
      have c : b ≠ a := by rintro rfl; rw [h6] at q; cases q
      exact ⟨by rw [upd_ne c]; exact k1, k2⟩
    · obtain ⟨k1, k2⟩ := R.sr.st b w q
      have c : b ≠ a := by rintro rfl; rw [h5] at q; cases q
      exact ⟨k1.mono hl, by rw [upd_ne c]; exact k2⟩
    · obtain ⟨c, e'⟩ := cut (by intro z; cases z) e'
      obtain ⟨x, k1, k2⟩ := R.vs j q e'
      exact ⟨x, k1, RP.mono hl _ _ k2⟩
    · obtain ⟨c, e'⟩ := cut (by intro z; cases z) e'
      obtain ⟨b, k1, k2, k3, k4⟩ := R.ow j w e'
      have cb : b ≠ a := by rintro rfl; exact R.ap i j _ w b c e e' h1 k1
      exact ⟨b, k1, k2.mono hl, by rw [upd_ne cb]; exact k3, k4⟩
    · exact R.ap j k w z b hjk (cut (by intro z; cases z) e1).2 (cut (by intro z; cases z) e2).2 h1 h2
  have R2 := R1.put (i := i) rp
  have hi : i < σ.length := by
    rw [R.len]; exact (List.getElem?_eq_some_iff.mp e).1
  have e1 : (ρ.set i .un).set i (.v (.lst xs)) = ρ.set i (.v (.lst xs)) := List.set_set ..
  have e2 : σ.set i (some (.ref a)) = σ := by
    refine List.ext_getElem? fun m => ?_
    by_cases c : i = m
    · subst c; rw [List.getElem?_set_self hi]; exact h1.symm
    · rw [List.getElem?_set_ne c]
  rw [e1, e2] at R2
  exact R2
theorem d_frz {i : Nat} {x : Str} (hN : X.N[i]? = some x) (hv : Vis X.env.scope x) (hd : (x == ("__debug__" : Str)) = false := by decide) (hcd : (x == ("__classdict__" : Str)) = false := by decide) : DE F I0 X (.Name x pos) (TF i) := by
  refine (pe_var hN hv hd hcd).weak fun σ H Q h => ?_
  obtain ⟨ρ, S, I, Q0, R, h, post⟩ := h
  unfold TF at h
  split at h
  · rename_i xs e
    obtain ⟨a, I', h1, l, R', rp⟩ := R.freeze e
    exact ⟨.ref a, h1, post _ _ (.v (.lst xs)) _ _ _ l R' rp h⟩
  · exact h.elim
/-- a constant reading -/
theorem d_c {e : Expr} {v : V} {p : P} (h : PE X e (tC v)) (hp : ∀ I, Le I0 I → RP (gm F I0 X) I p v) : DE F I0 X e (TC p) := by
  refine h.weak fun σ H Q h => ?_
  obtain ⟨ρ, S, I, Q0, R, h, post⟩ := h
  exact post _ _ (.v p) _ _ _ Le.refl R (hp I R.sr.i0) h
theorem d_int {i j} : DE F I0 X (.Constant (.int i) j pos) (TC (.int i)) := d_c pe_int fun _ _ => rfl
theorem d_bl {b j} : DE F I0 X (.Constant (.bool b) j pos) (TC (.bl b)) := d_c pe_bl fun _ _ => rfl
theorem d_non {j} : DE F I0 X (.Constant .none j pos) (TC .non) := d_c pe_non fun _ _ => rfl
theorem d_str {x j} (h : (decide (x.length ≤ sizeLine) && PyData.strOk x) = true := by decide +kernel) : DE F I0 X (.Constant (.str x) j pos) (TC (.str x)) := d_c pe_str fun _ _ => by
  rw [Bool.and_eq_true] at h
  exact ⟨rfl, of_decide_eq_true h.1, h.2⟩
theorem d_glob {x : Str} {v : V} {u : Value} {p : P} (hg : Gl X x) (hm : X.mg x = some u) (r : RelV v u) (hp : ∀ I, Le I0 I → RP (gm F I0 X) I p v) (hd : (x == ("__debug__" : Str)) = false := by decide) : DE F I0 X (.Name x pos) (TC p) := d_c (pe_glob hg hm r hd) hp
theorem d_ty {x : Str} {n : String} (hg : Gl X x) (hm : X.mg x = none) (hv : bootBuiltins x = some (.type n)) (hn : x ≠ "__name__" := by decide) (hd : (x == ("__debug__" : Str)) = false := by decide) : DE F I0 X (.Name x pos) (TC (.ty n)) := d_c (v := .ty n) (pe_bltn hg hm hv (show RelV (.ty n) (.type n) from rfl) hn hd) fun _ _ => rfl

/-! ### argument lists, displays -/
def ANil : DA := fun ρ S Q => Q [] ρ S
def ACons (t : DT) (u : DA) : DA := fun ρ S Q => t ρ S fun r ρ1 S1 => u ρ1 S1 fun rs ρ2 S2 => Q (r :: rs) ρ2 S2
def AStar (t : DT) (u : DA) : DA := fun ρ S Q => t ρ S fun r ρ1 S1 => match asQ ρ1 S1 r with
  | some ps => u ρ1 S1 fun rs ρ2 S2 => Q (ps.map R.v ++ rs) ρ2 S2
  | none => False
/-- the values of results, none of them an object of a slot's own -/
def vals : List R → Option (List P)
  | [] => some []
  | .v p :: rs => (vals rs).map (p :: ·)
  | .loc _ :: _ => none
theorem vals_of {G : Gm} {I : Hp} {σ : L2.St} : ∀ {rs : List R} {xs : List V} {ps : List P}, RRs G I σ rs xs → vals rs = some ps → RPs G I ps xs
  | [], _, _, r, e => by cases e; exact r
  | .v p :: rs, _, _, ⟨x, q, e, h, t⟩, k => by
    obtain ⟨qs, k1, rfl⟩ := Option.map_eq_some_iff.mp k
    exact ⟨x, q, e, h, vals_of t k1⟩
theorem RRs.of_vals {G : Gm} {I : Hp} {σ : L2.St} : ∀ {ps : List P} {xs : List V}, RPs G I ps xs → RRs G I σ (ps.map R.v) xs
  | [], _, r => r
  | _ :: _, _, ⟨x, q, e, h, t⟩ => ⟨x, q, e, h, RRs.of_vals t⟩
theorem RRs.append {G : Gm} {I : Hp} {σ : L2.St} : ∀ {rs qs : List R} {xs ys : List V}, RRs G I σ rs xs → RRs G I σ qs ys → RRs G I σ (rs ++ qs) (xs ++ ys)
  | [], _, _, _, r, t => by cases r; exact t
  | _ :: _, _, _, _, ⟨x, q, e, h, t⟩, u => by subst e; exact ⟨x, _, rfl, h, RRs.append t u⟩
theorem a_nil : DAs F I0 X [] ANil := pa_nil.weak fun σ H Q h => by
  obtain ⟨ρ, S, I, Q0, R, h, post⟩ := h
  exact post [] _ [] _ _ _ Le.refl R rfl h
theorem a_cons {e : Expr} {es : List Expr} {t : DT} {u : DA} (h1 : DE F I0 X e t) (h2 : DAs F I0 X es u) (hs : starEach (e :: es) X.env = (false, eval e X.env) :: starEach es X.env := by rfl) : DAs F I0 X (e :: es) (ACons t u) := by
  refine (pa_cons h1 h2 hs).weak fun σ H Q h => ?_
  obtain ⟨ρ, S, I, Q0, R, h, post⟩ := h
  refine ⟨ρ, S, I, _, R, h, fun x H1 r ρ1 S1 I1 l1 R1 rr q => ⟨ρ1, S1, I1, _, R1, q, fun xs H2 rs ρ2 S2 I2 l2 R2 rrs q2 => ?_⟩⟩
  exact post _ _ (r :: rs) _ _ _ (l1.trans l2) R2 ⟨x, xs, rfl, rr.mono l2, rrs⟩ q2
theorem a_star {e : Expr} {es : List Expr} {t : DT} {u : DA} {p : Pos} (h1 : DE F I0 X e t) (h2 : DAs F I0 X es u) (hs : starEach (.Starred e p :: es) X.env = (true, eval e X.env) :: starEach es X.env := by rfl) : DAs F I0 X (.Starred e p :: es) (AStar t u) := by
  refine (StX.pa_star h1 h2 hs).weak fun σ H Q h => ?_
  obtain ⟨ρ, S, I, Q0, R, h, post⟩ := h
  refine ⟨ρ, S, I, _, R, h, fun x H1 r ρ1 S1 I1 l1 R1 rr q => ?_⟩
  split at q
  · rename_i ps e
    obtain ⟨a, vs, rfl, hq, t1⟩ := R1.asQ rr e
    refine ⟨a, vs, rfl, hq.symm, ρ1, S1, I1, _, R1, q, fun xs H2 rs ρ2 S2 I2 l2 R2 rrs q2 => ?_⟩
    exact post _ _ _ _ _ _ (l1.trans l2) R2 (RRs.append (RRs.of_vals (RPs.mono l2 _ _ t1)) rrs) q2
  · exact q.elim
def TTup (u : DA) : DT := fun ρ S Q => u ρ S fun rs ρ1 S1 => match vals rs with
  | some ps => ps.length ≤ sizeLine ∧ Q (.v (.tup ps)) ρ1 S1
  | none => False
def TLst (u : DA) : DT := fun ρ S Q => u ρ S fun rs ρ1 S1 => match vals rs with
  | some ps => ps.length ≤ sizeLine ∧ Q (.v (.lst ps)) ρ1 S1
  | none => False
/-- a list of the store -/
def TLstS (u : DA) : DT := fun ρ S Q => u ρ S fun rs ρ1 S1 => match vals rs with
  | some ps => ps.length ≤ sizeLine ∧ ∀ a, S1 a = none → Q (.v (.ref a)) ρ1 (ups S1 a (.lst ps))
  | none => False
theorem d_tup {es : List Expr} {u : DA} {x1} (h : DAs F I0 X es u) : DE F I0 X (.Tuple es x1 pos) (TTup u) := by
  refine (pe_tupN h).weak fun σ H Q h => ?_
  obtain ⟨ρ, S, I, Q0, R, h, post⟩ := h
  refine ⟨ρ, S, I, _, R, h, fun xs H1 rs ρ1 S1 I1 l1 R1 rr q => ?_⟩
  split at q
  · rename_i ps e
    have t := vals_of rr e
    refine ⟨by rw [← t.length]; exact q.1, fun p ob hp hd => ?_⟩
    obtain ⟨l, R'⟩ := R1.frz (o := .frz ob (.tup xs)) hp
    exact post _ _ (.v (.tup ps)) _ _ _ (l1.trans l) R' (RP.mkT hd upd_same (RPs.mono l _ _ t)) q.2
  · exact q.elim
theorem d_lst {es : List Expr} {u : DA} (h : DAs F I0 X es u) : DE F I0 X (.List es pos) (TLst u) := by
  refine (pe_lst h).weak fun σ H Q h => ?_
  obtain ⟨ρ, S, I, Q0, R, h, post⟩ := h
  refine ⟨ρ, S, I, _, R, h, fun xs H1 rs ρ1 S1 I1 l1 R1 rr q => ?_⟩
  split at q
  · rename_i ps e
    have t := vals_of rr e
    refine ⟨by rw [← t.length]; exact q.1, fun p hp => ?_⟩
    obtain ⟨l, R'⟩ := R1.frz (o := .lst xs) hp
    exact post _ _ (.v (.lst ps)) _ _ _ (l1.trans l) R' (RP.mkL upd_same (RPs.mono l _ _ t)) q.2
  · exact q.elim
theorem d_lstS {es : List Expr} {u : DA} (h : DAs F I0 X es u) : DE F I0 X (.List es pos) (TLstS u) := by
  refine (pe_lst h).weak fun σ H Q h => ?_
  obtain ⟨ρ, S, I, Q0, R, h, post⟩ := h
  refine ⟨ρ, S, I, _, R, h, fun xs H1 rs ρ1 S1 I1 l1 R1 rr q => ?_⟩
  split at q
  · rename_i ps e
    have t := vals_of rr e
    refine ⟨by rw [← t.length]; exact q.1, fun p hp => ?_⟩
    obtain ⟨hs, R'⟩ := R1.newSt (o := .lst ps) (u := .lst xs) hp ⟨xs, upd_same, t⟩
    exact post _ _ (.v (.ref p)) _ _ _ l1 R' rfl (q.2 p hs)
  · exact q.elim
/-- {} -/
theorem d_dct0 : DE F I0 X (.Dict [] [] pos) (TC (.dct [])) := by
  refine (pe_dnewK (pos := pos)).weak fun σ H Q h => ?_
  obtain ⟨ρ, S, I, Q0, R, h, post⟩ := h
  intro p hp
  obtain ⟨l, R'⟩ := R.frz (o := .dK []) hp
  exact post _ _ (.v (.dct [])) _ _ _ l R' ⟨p, [], rfl, upd_same, rfl⟩ h
end

/-! ### subscripts -/
def ixD : R → R → Env → Store → K1 → Prop := fun a b ρ S k => match b with
  | .v (.int i) => match a with
    | .v (.str s) => match atI s.cps.toList i with
      | some c => k (.str ⟨#[c]⟩)
      | none => False
    | a => match asQ ρ S a with
      | some xs => match atI xs i with
        | some p => k p
        | none => False
      | none => False
  | _ => False
theorem atI_RPs {G : Gm} {I : Hp} {xs : List P} {vs : List V} {i : Int} {p : P} (t : RPs G I xs vs) (e : atI xs i = some p) : ∃ x, atI vs i = some x ∧ RP G I p x := by
  unfold atI at e ⊢
  rw [← t.length]
  cases c : ixN xs.length i with
  | none => rw [c] at e; cases e
  | some j => rw [c] at e; exact t.get e
theorem sign_ok {s : Str} {c : Nat} (h : PyData.strOk s = true) (e : c ∈ s.cps.toList) : PyData.strOk ⟨#[c]⟩ = true := by
  unfold PyData.strOk at h ⊢
  have := Array.all_eq_true_iff_forall_mem.mp h c (by simpa using e)
  simpa using this
theorem atI_mem {α : Type} {xs : List α} {i : Int} {x : α} (e : atI xs i = some x) : x ∈ xs := by
  unfold atI at e
  cases c : ixN xs.length i with
  | none => rw [c] at e; cases e
  | some j => rw [c] at e; exact List.mem_of_getElem? e
theorem l_ix {X : Cx} : Lk2 X (rIx X.K) ixD := by
  intro F I0 ρ S I σ H x y a b k Q R ra rb q post
  unfold ixD at q
  split at q
  · rename_i i
    cases rb
    split at q
    · rename_i s
      split at q
      · rename_i c e
        cases ra.1
        refine .inr (.inr ⟨s, i, c, rfl, rfl, ra.2.1, e, post _ _ _ _ Le.refl R (.mkS (by show 1 ≤ sizeLine; decide) (sign_ok ra.2.2 (atI_mem e))) q⟩)
      · exact q.elim
    · split at q
      · rename_i xs e
        split at q
        · rename_i p e2
          obtain ⟨a, vs, rfl, hq, t⟩ := R.asQ ra e
          obtain ⟨x, h1, h2⟩ := atI_RPs t e2
          rcases hq with hq | hq
          · exact .inl ⟨a, vs, i, x, rfl, rfl, hq, h1, post _ _ _ _ Le.refl R h2 q⟩
          · exact .inr (.inl ⟨a, vs, i, x, rfl, rfl, hq, h1, post _ _ _ _ Le.refl R h2 q⟩)
        · exact q.elim
      · exact q.elim
  · exact q.elim
section
variable {X : Cx} {F I0 : Hp} {a b c : Expr} {Ta Tb Tc : DT} {pos : Pos}
theorem d_ix (ha : DE F I0 X a Ta) (hb : DE F I0 X b Tb) (hs : PlainIx b := by exact fun _ _ => rfl) : DE F I0 X (.Subscript a b pos) (T2 ixD Ta Tb) :=
  (pe_ix ix_seq ha hb hs).weak (weak2 fun x y H Q ⟨ρ, S, I, σ, a, b, k, R, ra, rb, q, post⟩ => l_ix F I0 ρ S I σ H x y a b k Q R ra rb q post)
end

/-! ### slices -/
abbrev DO := Env → Store → (Option Int → Env → Store → Prop) → Prop
def trO (G : Gm) (T : DO) : TO := fun σ H Q => ∃ (ρ : Env) (S : Store) (I : Hp) (Q0 : Option Int → Env → Store → Prop), Rel G ρ S I σ H ∧ T ρ S Q0 ∧
  ∀ i H' ρ' S' I', Le I I' → Rel G ρ' S' I' σ H' → Q0 i ρ' S' → Q i H'
def OPart (t : DT) : DO := fun ρ S Q => t ρ S fun r ρ1 S1 => match r with
  | .v (.int i) => Q (some i) ρ1 S1
  | _ => False
def ONo : DO := fun ρ S Q => Q none ρ S
def cut {α : Type} (xs : List α) (lo hi : Option Int) : List α := (xs.drop (HT.sIx xs.length 0 lo)).take (HT.sIx xs.length xs.length hi - HT.sIx xs.length 0 lo)
theorem cut_whole {α : Type} {xs : List α} {lo hi : Option Int} (h : HT.sIx xs.length 0 lo = 0 ∧ HT.sIx xs.length xs.length hi = xs.length) : cut xs lo hi = xs := by
  unfold cut
  rw [h.1, h.2, List.drop_zero, Nat.sub_zero, List.take_length]
theorem RPs.cut {G : Gm} {I : Hp} {xs : List P} {vs : List V} (t : RPs G I xs vs) (lo hi : Option Int) : RPs G I (D.cut xs lo hi) (cutV vs lo hi) := by
  unfold D.cut cutV
  rw [t.length]
  exact (t.drop _).take _
def slD : R → Option Int → Option Int → Env → Store → K1 → Prop := fun a lo hi ρ S k => match a with
  | .v (.str s) => k (.str (cutS s lo hi))
  | .v (.tup xs) => k (.tup (cut xs lo hi))
  | a => match asL ρ S a with
    | some xs => k (.lst (cut xs lo hi))
    | none => False
def TSl (ta : DT) (lo hi : DO) : DT := fun ρ S Q => ta ρ S fun a ρ1 S1 => lo ρ1 S1 fun l ρ2 S2 => hi ρ2 S2 fun h ρ3 S3 => slD a l h ρ3 S3 fun p => Q (.v p) ρ3 S3
end D
/-! D4: slices, calls of built-in functions and methods, by deep values. -/
namespace D
open PySem PySem.Spec L2

/-! ### signs of texts -/
theorem strOk_iff {s : Str} : PyData.strOk s = true ↔ ∀ c ∈ s.cps.toList, c < 0x110000 := by
  unfold PyData.strOk
  rw [Array.all_eq_true_iff_forall_mem]
  constructor
  · intro h c hc; simpa using h c (by simpa using hc)
  · intro h c hc; simpa using h c (by simpa using hc)
theorem strOk_str (s : String) : PyData.strOk (Str.ofString s) = true := by
  rw [strOk_iff]
  intro c hc
  rw [Str.ofString_eq_toList] at hc
  obtain ⟨d, _, rfl⟩ := List.mem_map.mp (show c ∈ s.toList.map Char.toNat by simpa using hc)
  have h := d.valid; simp only [UInt32.isValidChar, Nat.isValidChar] at h
  show d.val.toNat < _
  omega
theorem strOk_cut {s : Str} (h : PyData.strOk s = true) (lo hi : Option Int) : PyData.strOk (cutS s lo hi) = true := by
  rw [strOk_iff] at h ⊢
  intro c hc
  unfold cutS at hc
  exact h c (List.mem_of_mem_drop (List.mem_of_mem_take (by simpa using hc)))
theorem len_cut {s : Str} (lo hi : Option Int) : (cutS s lo hi).length ≤ s.length := by
  unfold cutS Str.length; simp only [List.size_toArray, List.length_take, List.length_drop, Array.length_toList]
  omega
theorem digit_ok {b n : Nat} (hb : b ≤ 16) {c : Char} (h : c ∈ Nat.toDigits b n) : c.toNat < 0x110000 := by
  have := c.valid
  simp only [UInt32.isValidChar, Nat.isValidChar] at this
  show c.val.toNat < _
  omega
theorem reprChar_ok {q c : Nat} (h : c < 0x110000) (hq : q < 0x110000) : ∀ x ∈ Builtin.Str.reprChar q c, x < 0x110000 := by
  have hx : ∀ (w : Nat), ∀ x ∈ (List.replicate (w - ((Nat.toDigits 16 c).map Char.toNat).length) 48 ++ (Nat.toDigits 16 c).map Char.toNat), x < 0x110000 := by
    intro w x hx
    rcases List.mem_append.mp hx with k | k
    · have := List.eq_of_mem_replicate k; omega
    · obtain ⟨d, hd, rfl⟩ := List.mem_map.mp k
      exact digit_ok (by decide) hd
  intro x hm
  unfold Builtin.Str.reprChar at hm
  simp only at hm
  split at hm
  · rcases List.mem_cons.mp hm with qz | hm
    · omega
    · rcases List.mem_cons.mp hm with qz | hm
      · omega
      · cases hm
  · split at hm
    · simp at hm; omega
    · split at hm
      · simp at hm; omega
      · split at hm
        · simp at hm; omega
        · split at hm
          · simp at hm; omega
          · split at hm
            · rcases List.mem_append.mp hm with k | k
              · simp at k; omega
              · exact hx 2 x k
            · split at hm
              · rcases List.mem_append.mp hm with k | k
                · simp at k; omega
                · exact hx 4 x k
              · rcases List.mem_append.mp hm with k | k
                · simp at k; omega
                · exact hx 8 x k
theorem strOk_repr {s : Str} (h : PyData.strOk s = true) : PyData.strOk (reprText s) = true := by
  have hq : reprQuote s < 0x110000 := by unfold reprQuote; split <;> omega
  rw [strOk_iff] at h ⊢
  unfold reprText
  have key : ∀ (l : List Nat) (acc : Array Nat), (∀ c ∈ l, c < 0x110000) → (∀ c ∈ acc.toList, c < 0x110000) → ∀ c ∈ (l.foldl (fun out c => out ++ (Builtin.Str.reprChar (reprQuote s) c).toArray) acc).toList, c < 0x110000 := by
    intro l
    induction l with
    | nil => intro acc _ ha; exact ha
    | cons d r ih =>
      intro acc hl ha
      refine ih _ (fun c hc => hl c (List.mem_cons_of_mem _ hc)) fun c hc => ?_
      rcases List.mem_append.mp (show c ∈ acc.toList ++ Builtin.Str.reprChar (reprQuote s) d by simpa using hc) with k | k
      · exact ha c k
      · exact reprChar_ok (hl d (List.mem_cons_self ..)) hq c k
  intro c hc
  rw [← Array.foldl_toList, Array.toList_push] at hc
  rcases List.mem_append.mp hc with k | k
  · exact key s.cps.toList #[reprQuote s] h (by intro c hc; simp at hc; omega) c k
  · simp at k; omega
theorem strOk_join {s : Str} (h : PyData.strOk s = true) : ∀ ts : List Str, (∀ t ∈ ts, PyData.strOk t = true) → PyData.strOk (Str.join s ts) = true
  | [], _ => by unfold Str.join; decide +kernel
  | [x], k => k x (List.mem_cons_self ..)
  | x :: y :: r, k => cat_strOk (cat_strOk (k x (List.mem_cons_self ..)) h) (strOk_join h (y :: r) fun t ht => k t (List.mem_cons_of_mem _ ht))
theorem strOk_from : ∀ (ts : List Str) (k : Nat) (acc : Str), (∀ t ∈ ts, PyData.strOk t = true) → PyData.strOk acc = true → PyData.strOk (textFrom k acc ts) = true
  | [], _, _, _, h => h
  | t :: r, k, acc, h, ha => strOk_from r (k + 1) _ (fun u hu => h u (List.mem_cons_of_mem _ hu)) (cat_strOk (cat_strOk ha (by split <;> exact strOk_str _)) (h t (List.mem_cons_self ..)))
mutual
theorem strOk_shown : ∀ d : PyData, d.canLay0 = true → PyData.strOk d.shown = true
  | .none, _ => strOk_str _
  | .bool b, _ => by cases b <;> exact strOk_str _
  | .int i, _ => strOk_str _
  | .str x, h => strOk_repr h
  | .list xs, h => cat_strOk (strOk_from _ 0 _ (strOk_shownAll xs h) (strOk_str _)) (strOk_str _)
  | .tuple xs, h => cat_strOk (cat_strOk (strOk_str _) (strOk_join (strOk_str _) _ (strOk_shownAll xs h))) (by split <;> exact strOk_str _)
  | .dict _, h => nomatch h
theorem strOk_shownAll : ∀ xs : List PyData, PyData.canLayAll0 xs = true → ∀ t ∈ PyData.shownAll xs, PyData.strOk t = true
  | [], _, _, h => nomatch h
  | x :: xs, h, t, ht => by
    have h' : x.canLay0 = true ∧ PyData.canLayAll0 xs = true := by
      simpa [PyData.canLayAll0] using h
    rcases List.mem_cons.mp ht with rfl | ht
    · exact strOk_shown x h'.1
    · exact strOk_shownAll xs h'.2 t ht
end

/-! ### slices -/
section
variable {X : Cx} {F I0 : Hp} {a b c : Expr} {Ta Tb Tc : DT} {pos p2 : Pos}
theorem o_none : PO X none (trO (gm F I0 X) ONo) := by
  refine ⟨fun pins s σ H Q J h => po_none.run pins s σ H Q J ?_⟩
  obtain ⟨ρ, S, I, Q0, R, h, post⟩ := h
  exact post _ _ _ _ _ Le.refl R h
theorem o_some (h : DE F I0 X a Ta) : PO X (some a) (trO (gm F I0 X) (OPart Ta)) := by
  refine ⟨fun pins s σ H Q J q => (po_some h).run pins s σ H Q J ?_⟩
  obtain ⟨ρ, S, I, Q0, R, q, post⟩ := q
  refine ⟨ρ, S, I, _, R, q, fun x H' r ρ' S' I' l R' rr q => ?_⟩
  split at q
  · rename_i i
    exact ⟨i, rr, post _ _ _ _ _ l R' q⟩
  · exact q.elim
theorem d_sl {lo hi : Option Expr} {Tl Th : DO} (ha : DE F I0 X a Ta) (hl : PO X lo (trO (gm F I0 X) Tl)) (hh : PO X hi (trO (gm F I0 X) Th)) : DE F I0 X (.Subscript a (.Slice lo hi none p2) pos) (TSl Ta Tl Th) := by
  refine (pe_slice (SlR.or sl_list (SlR.or sl_tupN sl_str)) ha hl hh).weak fun σ H Q h => ?_
  obtain ⟨ρ, S, I, Q0, R, h, post⟩ := h
  refine ⟨ρ, S, I, _, R, h, fun x H1 r ρ1 S1 I1 l1 R1 rr0 q1 => ⟨ρ1, S1, I1, _, R1, q1, fun i H2 ρ2 S2 I2 l2 R2 q2 => ⟨ρ2, S2, I2, _, R2, q2, fun j H3 ρ3 S3 I3 l3 R3 q => ?_⟩⟩⟩
  have rr := rr0.mono (l2.trans l3)
  clear rr0 q1 q2
  have l4 := l1.trans (l2.trans l3)
  unfold slD at q
  split at q
  · rename_i s
    cases rr.1
    exact .inr (.inr ⟨s, rfl, rr.2.1, post _ _ (.v (.str _)) _ _ _ l4 R3 (RP.mkS (G := gm F I0 X) (I := I3) (Nat.le_trans (len_cut i j) rr.2.1) (strOk_cut rr.2.2 i j)) q⟩)
  · rename_i xs
    obtain ⟨a, vs, rfl, h1, t1⟩ := id rr
    refine .inr (.inl ⟨a, vs, ⟨rfl, R3.sr.imm.sqt h1.sqt⟩, fun hw => ?_, fun _ p ob hp hd => ?_⟩)
    · rw [← t1.length] at hw
      rw [cut_whole hw] at q
      exact post _ _ (.v (.tup xs)) _ _ _ l4 R3 rr q
    · obtain ⟨l, R'⟩ := R3.frz (o := .frz ob (.tup (cutV vs i j))) hp
      exact post _ _ (.v (.tup _)) _ _ _ (l4.trans l) R' (RP.mkT (G := gm F I0 X) hd upd_same (RPs.mono l _ _ (t1.cut i j))) q
  · split at q
    · rename_i xs e
      obtain ⟨a, vs, rfl, h1, t1⟩ := R3.asL rr e
      refine .inl ⟨a, vs, rfl, h1, fun p hp => ?_⟩
      obtain ⟨l, R'⟩ := R3.frz (o := .lst (cutV vs i j)) hp
      exact post _ _ (.v (.lst _)) _ _ _ (l4.trans l) R' (RP.mkL (G := gm F I0 X) upd_same (RPs.mono l _ _ (t1.cut i j))) q
    · exact q.elim
end

/-! ### calls of what is built in -/
abbrev NOp := List R → Env → Store → K1 → Prop
def OpN (X : Cx) (f : Value) (d : NOp) : Prop :=
  ∀ (F I0 : Hp) (pins : List (Addr × Obj)) (s : Shared) (ρ : Env) (S : Store) (I : Hp) (σ τ : L2.St) (H : Hp) (xs : List V) (us : List Value) (rs : List R) (k : K1) (Q : VK), Inv X pins τ H s → Rel (gm F I0 X) ρ S I σ H → RRs (gm F I0 X) I σ rs xs → Vals xs us → d rs ρ S k →
    Pst (gm F I0 X) ρ S I σ k Q → wpAny (model X.prog X.w) X.A (call f us) (EP X pins τ Q) X.xe s
def LkN (X : Cx) (r : List V → Hp → VK → Prop) (d : NOp) : Prop :=
  ∀ (F I0 : Hp) (ρ : Env) (S : Store) (I : Hp) (σ : L2.St) (H : Hp) (xs : List V) (rs : List R) (k : K1) (Q : VK), Rel (gm F I0 X) ρ S I σ H → RRs (gm F I0 X) I σ rs xs → d rs ρ S k → Pst (gm F I0 X) ρ S I σ k Q → r xs H Q
theorem OpN.of {X : Cx} {f : Value} {r : List V → Hp → VK → Prop} {d : NOp} (h : CallR X f r) (l : LkN X r d) : OpN X f d :=
  fun F I0 pins s ρ S I σ τ H xs us rs k Q J R rr rv q post => h pins s τ H xs us Q J rv (l F I0 ρ S I σ H xs rs k Q R rr q post)
theorem OpN.or {X : Cx} {f : Value} {d e : NOp} (h : OpN X f d) (h' : OpN X f e) : OpN X f (fun rs ρ S k => d rs ρ S k ∨ e rs ρ S k) :=
  fun F I0 pins s ρ S I σ τ H xs us rs k Q J R rr rv q post => q.elim (fun q => h F I0 pins s ρ S I σ τ H xs us rs k Q J R rr rv q post) fun q => h' F I0 pins s ρ S I σ τ H xs us rs k Q J R rr rv q post
theorem OpN.imp {X : Cx} {f : Value} {d e : NOp} (h : OpN X f d) (l : ∀ rs ρ S k, e rs ρ S k → d rs ρ S k) : OpN X f e :=
  fun F I0 pins s ρ S I σ τ H xs us rs k Q J R rr rv q post => h F I0 pins s ρ S I σ τ H xs us rs k Q J R rr rv (l _ _ _ _ q) post
def rDN (G : Gm) (d : NOp) : List V → Hp → VK → Prop := fun xs H Q => ∃ (ρ : Env) (S : Store) (I : Hp) (σ : L2.St) (rs : List R) (k : K1), Rel G ρ S I σ H ∧ RRs G I σ rs xs ∧ d rs ρ S k ∧ Pst G ρ S I σ k Q
theorem OpN.r {X : Cx} {f : Value} {d : NOp} (h : OpN X f d) (F I0 : Hp) : CallR X f (rDN (gm F I0 X) d) := by
  intro pins s σ H xs us Q J rv q
  obtain ⟨ρ, S, I, σ', rs, k, R, rr, q, post⟩ := q
  exact h F I0 pins s ρ S I σ' σ H xs us rs k Q J R rr rv q post
def TCall (d : NOp) (A : DA) : DT := fun ρ S Q => A ρ S fun rs ρ1 S1 => d rs ρ1 S1 fun p => Q (.v p) ρ1 S1
theorem weakN {G : Gm} {d : NOp} {A : DA} : ∀ σ H Q, tr G (TCall d A) σ H Q → tCB (rDN G d) (trA G A) σ H Q := by
  intro σ H Q ⟨ρ, S, I, Q0, R, h, post⟩
  refine ⟨ρ, S, I, _, R, h, fun xs H1 rs ρ1 S1 I1 l1 R1 rr q => ?_⟩
  exact ⟨ρ1, S1, I1, σ, rs, _, R1, rr, q, fun z H' p I' l R' rp kp => post z H' (.v p) ρ1 S1 I' (l1.trans l) R' rp kp⟩
section
variable {X : Cx} {F I0 : Hp} {e : Expr} {es : List Expr} {A : DA} {pos p : Pos} {x : Str} {id T : String} {d : NOp}
theorem d_callB (hc : OpN X (.builtin id) d) (hg : Gl X x) (hm : X.mg x = none) (hv : bootBuiltins x = some (.builtin id)) (ha : DAs F I0 X (e :: es) A) (hn : x ≠ "__name__" := by decide) (hdb : (x == ("__debug__" : Str)) = false := by decide)
    (he : starEach (e :: es) X.env = (false, eval e X.env) :: starEach es X.env := by rfl) (hpl : (backTo pos (starEach es X.env)).any (·.1) = false := by rfl) : DE F I0 X (.Call (.Name x p) (e :: es) [] pos) (TCall d A) :=
  (pe_callB (hc.r F I0) hg hm hv ha hn hdb he hpl).weak weakN
theorem d_callTy (hc : OpN X (.type T) d) (hg : Gl X x) (hm : X.mg x = none) (hv : bootBuiltins x = some (.type T)) (ha : DAs F I0 X (e :: es) A) (hn : x ≠ "__name__" := by decide) (hdb : (x == ("__debug__" : Str)) = false := by decide)
    (he : starEach (e :: es) X.env = (false, eval e X.env) :: starEach es X.env := by rfl) (hpl : (backTo pos (starEach es X.env)).any (·.1) = false := by rfl) : DE F I0 X (.Call (.Name x p) (e :: es) [] pos) (TCall d A) :=
  (pe_callTy (hc.r F I0) hg hm hv ha hn hdb he hpl).weak weakN
end

/-! ### the built-in functions -/
def lenD : NOp := fun rs ρ S k => match rs with
  | [.v (.str s)] => k (.int s.length)
  | [r] => match asQ ρ S r with
    | some xs => k (.int xs.length)
    | none => False
  | _ => False
section
variable {X : Cx}
theorem n_len : OpN X (.builtin "len") lenD := by
  intro F I0 pins s ρ S I σ τ H xs us rs k Q J R rr rv q post
  unfold lenD at q
  split at q
  · obtain ⟨x, r, rfl, h, e⟩ := rr
    cases e
    obtain ⟨rfl, hl, _⟩ := h
    exact call_len_str pins s τ H _ us Q J rv ⟨_, rfl, hl, post _ _ _ _ Le.refl R .mkI q⟩
  · split at q
    · rename_i ys e2
      obtain ⟨x, r, rfl, h, e⟩ := rr
      cases e
      obtain ⟨a, vs, rfl, hq, t⟩ := R.asQ h e2
      refine call_len_seq pins s τ H _ us Q J rv ⟨a, vs, rfl, hq, ?_⟩
      rw [← t.length]
      exact post _ _ _ _ Le.refl R .mkI q
    · exact q.elim
  · exact q.elim
/-- the name of a built-in value's type -/
def tyN (ρ : Env) (S : Store) : R → Option String
  | .v .non => some "NoneType"
  | .v (.bl _) => some "bool"
  | .v (.int _) => some "int"
  | .v (.str _) => some "str"
  | .v (.tup _) => some "tuple"
  | .v (.dct _) => some "dict"
  | r => (asL0 ρ S r).map fun _ => "list"
def isB (a b : String) : Bool := a == b || (a == "bool" && b == "int")
def isKnown (b : String) : Bool := ["int", "bool", "str", "tuple", "list", "dict"].contains b
theorem isB_ok {a b : String} (ha : a ∈ ["NoneType", "bool", "int", "str", "tuple", "dict", "list"]) (hb : isKnown b = true) : kitB a b = some (isB a b) := by
  have hb : b ∈ ["int", "bool", "str", "tuple", "list", "dict"] := by simpa [isKnown] using hb
  have key : ∀ a ∈ ["NoneType", "bool", "int", "str", "tuple", "dict", "list"], ∀ b ∈ ["int", "bool", "str", "tuple", "list", "dict"], kitB a b = some (isB a b) := by decide +kernel
  exact key a ha b hb
theorem Rel.ty {F I0 : Hp} {ρ : Env} {S : Store} {I : Hp} {σ : L2.St} {H : Hp} (R : Rel (gm F I0 X) ρ S I σ H) {r : D.R} {x : V} {n : String} (rr : RR (gm F I0 X) I σ r x) (e : tyN ρ S r = some n) : TyX X.K H x (.type n) ∧ n ∈ ["NoneType", "bool", "int", "str", "tuple", "dict", "list"] := by
  unfold tyN at e
  split at e
  · cases e; cases rr; exact ⟨.base .non, by simp⟩
  · cases e; cases rr; exact ⟨.base (.bl _), by simp⟩
  · cases e; cases rr; exact ⟨.base (.int _), by simp⟩
  · cases e; cases rr.1; exact ⟨.base (.str _), by simp⟩
  · cases e
    obtain ⟨a, vs, rfl, h, _⟩ := rr
    refine ⟨?_, by simp⟩
    rcases R.sr.imm.sqt h.sqt with (h | ⟨o, h⟩) | ⟨o, its, n, h1, h2, _⟩
    · exact .base (.tup h)
    · exact .fTuple h
    · exact .kTuple h1 h2
  · cases e
    obtain ⟨a, ds, rfl, h, _⟩ := rr
    exact ⟨.base (.dK (R.sr.imm _ _ h)), by simp⟩
  · obtain ⟨xs, hx, rfl⟩ := Option.map_eq_some_iff.mp e
    obtain ⟨a, vs, rfl, h, _⟩ := R.asL0 rr hx
    exact ⟨.base (.lst h), by simp⟩
def isiD : NOp := fun rs ρ S k => match rs with
  | [r, .v (.ty b)] => isKnown b = true ∧ match tyN ρ S r with
    | some a => k (.bl (isB a b))
    | none => False
  | _ => False
theorem n_isi : OpN X (.builtin "isinstance") isiD := by
  refine OpN.of call_isi ?_
  intro F I0 ρ S I σ H xs rs k Q R rr q post
  unfold isiD at q
  split at q
  · rename_i r b
    obtain ⟨hb, q⟩ := q
    split at q
    · rename_i a e
      obtain ⟨x, _, rfl, h, y, _, rfl, h2, e2⟩ := rr
      cases e2
      cases h2
      obtain ⟨ty, hm⟩ := R.ty h e
      exact ⟨x, .ty b, .type a, .type b, isB a b, rfl, .ty b, ty, kit_ty (isB_ok hm hb), post _ _ _ _ Le.refl R .mkB q⟩
    · exact q.elim
  · exact q.elim
/-- one int -/
def iD (C : Int → Prop) (f : Int → P) : NOp := fun rs ρ S k => match rs with
  | [.v (.int i)] => C i ∧ k (f i)
  | _ => False
def absD : NOp := fun rs ρ S k => match rs with
  | [.v (.int i)] => k (.int (if i < 0 then -i else i))
  | _ => False
theorem n_abs : OpN X (.builtin "abs") absD := by
  refine OpN.of call_abs ?_
  intro F I0 ρ S I σ H xs rs k Q R rr q post
  unfold absD at q
  split at q
  · obtain ⟨x, _, rfl, h, e⟩ := rr
    cases e; cases h
    exact ⟨_, rfl, post _ _ _ _ Le.refl R .mkI q⟩
  · exact q.elim
/-- max(m, n), or of a list of ints -/
def intL : List P → Option (List Int)
  | [] => some []
  | .int i :: r => (intL r).map (i :: ·)
  | _ :: _ => none
theorem ints_of {G : Gm} {I : Hp} : ∀ (ps : List P) {vs : List V} {ns : List Int}, RPs G I ps vs → intL ps = some ns → vs = ns.map V.int := by
  intro ps
  induction ps with
  | nil => intro vs ns r e; cases e; exact r
  | cons p ps ih =>
    intro vs ns ⟨x, q, e, h, t⟩ k
    cases p with
    | int i =>
      obtain ⟨ms, k1, rfl⟩ := Option.map_eq_some_iff.mp k
      cases h
      rw [e, ih t k1] <;> rfl
    | _ => cases k
def maxD : NOp := fun rs ρ S k => match rs with
  | [.v (.int i), .v (.int j)] => k (.int (if j > i then j else i))
  | [r] => match (asL ρ S r).bind intL with
    | some ns => ns ≠ [] ∧ ∀ m, m ∈ ns → (∀ y, y ∈ ns → y ≤ m) → k (.int m)
    | none => False
  | _ => False
def minD : NOp := fun rs ρ S k => match rs with
  | [.v (.int i), .v (.int j)] => k (.int (if j < i then j else i))
  | [r] => match (asL ρ S r).bind intL with
    | some ns => ns ≠ [] ∧ ∀ m, m ∈ ns → (∀ y, y ∈ ns → m ≤ y) → k (.int m)
    | none => False
  | _ => False
theorem n_max (hc : X.calm = true) : OpN X (.builtin "max") maxD := by
  intro F I0 pins s ρ S I σ τ H xs us rs k Q J R rr rv q post
  unfold maxD at q
  split at q
  · obtain ⟨x, _, rfl, h, y, _, rfl, h2, e⟩ := rr
    cases e; cases h; cases h2
    exact call_max2 hc pins s τ H _ us Q J rv ⟨_, _, rfl, post _ _ _ _ Le.refl R .mkI q⟩
  · split at q
    · rename_i ns e
      obtain ⟨ys, e1, e2⟩ := Option.bind_eq_some_iff.mp e
      obtain ⟨x, _, rfl, h, e⟩ := rr
      cases e
      obtain ⟨a, vs, rfl, hs, t⟩ := R.asL h e1
      cases ints_of _ t e2
      exact cr_max hc pins s τ H _ us Q J rv ⟨a, ns, rfl, hs, List.length_pos_iff.mpr q.1, fun m hm hy => post _ _ _ _ Le.refl R .mkI (q.2 m hm hy)⟩
    · exact q.elim
  · exact q.elim
theorem n_min (hc : X.calm = true) : OpN X (.builtin "min") minD := by
  intro F I0 pins s ρ S I σ τ H xs us rs k Q J R rr rv q post
  unfold minD at q
  split at q
  · obtain ⟨x, _, rfl, h, y, _, rfl, h2, e⟩ := rr
    cases e; cases h; cases h2
    exact call_min2 hc pins s τ H _ us Q J rv ⟨_, _, rfl, post _ _ _ _ Le.refl R .mkI q⟩
  · split at q
    · rename_i ns e
      obtain ⟨ys, e1, e2⟩ := Option.bind_eq_some_iff.mp e
      obtain ⟨x, _, rfl, h, e⟩ := rr
      cases e
      obtain ⟨a, vs, rfl, hs, t⟩ := R.asL h e1
      cases ints_of _ t e2
      exact cr_min hc pins s τ H _ us Q J rv ⟨a, ns, rfl, hs, List.length_pos_iff.mpr q.1, fun m hm hy => post _ _ _ _ Le.refl R .mkI (q.2 m hm hy)⟩
    · exact q.elim
  · exact q.elim
def sumD : NOp := fun rs ρ S k => match rs with
  | [r] => match (asL ρ S r).bind intL with
    | some ns => k (.int ns.sum)
    | none => False
  | _ => False
theorem n_sum (hc : X.calm = true) : OpN X (.builtin "sum") sumD := by
  refine OpN.of (cr_sum hc) ?_
  intro F I0 ρ S I σ H xs rs k Q R rr q post
  unfold sumD at q
  split at q
  · split at q
    · rename_i ns e
      obtain ⟨ys, e1, e2⟩ := Option.bind_eq_some_iff.mp e
      obtain ⟨x, _, rfl, h, e⟩ := rr
      cases e
      obtain ⟨a, vs, rfl, hs, t⟩ := R.asL h e1
      cases ints_of _ t e2
      exact ⟨a, ns, rfl, hs, post _ _ _ _ Le.refl R .mkI q⟩
    · exact q.elim
  · exact q.elim
def bls : List P → Option (List Bool)
  | [] => some []
  | .bl b :: r => (bls r).map (b :: ·)
  | _ :: _ => none
theorem bls_of {G : Gm} {I : Hp} : ∀ (ps : List P) {vs : List V} {ns : List Bool}, RPs G I ps vs → bls ps = some ns → vs = ns.map V.bl := by
  intro ps
  induction ps with
  | nil => intro vs ns r e; cases e; exact r
  | cons p ps ih =>
    intro vs ns ⟨x, q, e, h, t⟩ k
    cases p with
    | bl i =>
      obtain ⟨ms, k1, rfl⟩ := Option.map_eq_some_iff.mp k
      cases h
      rw [e, ih t k1] <;> rfl
    | _ => cases k
def allD : NOp := fun rs ρ S k => match rs with
  | [r] => match (asL ρ S r).bind bls with
    | some bs => k (.bl (bs.all id))
    | none => False
  | _ => False
def anyD : NOp := fun rs ρ S k => match rs with
  | [r] => match (asL ρ S r).bind bls with
    | some bs => k (.bl (bs.any id))
    | none => False
  | _ => False
theorem n_all (hc : X.calm = true) : OpN X (.builtin "all") allD := by
  refine OpN.of (cr_all hc) ?_
  intro F I0 ρ S I σ H xs rs k Q R rr q post
  unfold allD at q
  split at q
  · split at q
    · rename_i ns e
      obtain ⟨ys, e1, e2⟩ := Option.bind_eq_some_iff.mp e
      obtain ⟨x, _, rfl, h, e⟩ := rr
      cases e
      obtain ⟨a, vs, rfl, hs, t⟩ := R.asL h e1
      cases bls_of _ t e2
      exact ⟨a, ns, rfl, hs, post _ _ _ _ Le.refl R .mkB q⟩
    · exact q.elim
  · exact q.elim
theorem n_any (hc : X.calm = true) : OpN X (.builtin "any") anyD := by
  refine OpN.of (cr_any hc) ?_
  intro F I0 ρ S I σ H xs rs k Q R rr q post
  unfold anyD at q
  split at q
  · split at q
    · rename_i ns e
      obtain ⟨ys, e1, e2⟩ := Option.bind_eq_some_iff.mp e
      obtain ⟨x, _, rfl, h, e⟩ := rr
      cases e
      obtain ⟨a, vs, rfl, hs, t⟩ := R.asL h e1
      cases bls_of _ t e2
      exact ⟨a, ns, rfl, hs, post _ _ _ _ Le.refl R .mkB q⟩
    · exact q.elim
  · exact q.elim
def divmodD : NOp := fun rs ρ S k => match rs with
  | [.v (.int i), .v (.int j)] => CDivW i j ∧ k (.tup [.int (i / j), .int (i % j)])
  | _ => False
theorem n_divmod : OpN X (.builtin "divmod") divmodD := by
  refine OpN.of call_divmodN ?_
  intro F I0 ρ S I σ H xs rs k Q R rr q post
  unfold divmodD at q
  split at q
  · rename_i i j
    obtain ⟨x, _, rfl, h, y, _, rfl, h2, e⟩ := rr
    cases e; cases h; cases h2
    refine ⟨i, j, rfl, ⟨q.1.1, PyProof.noPylong_of_log2 q.1.2⟩, fun p ob hp hd => ?_⟩
    obtain ⟨l, R'⟩ := R.frz (o := .frz ob (.tup [.int (i / j), .int (i % j)])) hp
    exact post _ _ _ _ l R' (.mkT (ps := [.int (i / j), .int (i % j)]) hd upd_same ⟨_, _, rfl, rfl, _, _, rfl, rfl, rfl⟩) q.2
  · exact q.elim
def tupD : NOp := fun rs ρ S k => match rs with
  | [r] => match asQ ρ S r with
    | some xs => k (.tup xs)
    | none => False
  | _ => False
theorem n_tup : OpN X (.type "tuple") tupD := by
  refine OpN.of call_tupleN ?_
  intro F I0 ρ S I σ H xs rs k Q R rr q post
  unfold tupD at q
  split at q
  · rename_i r
    split at q
    · rename_i ys e
      obtain ⟨x, _, rfl, h, e2⟩ := rr
      cases e2
      by_cases c : ∃ zs, r = .v (.tup zs)
      · obtain ⟨zs, rfl⟩ := c
        cases e
        obtain ⟨a, vs, rfl, hs, t⟩ := id h
        exact ⟨a, vs, rfl, .inr ⟨R.sr.imm.sqt hs.sqt, post _ _ _ _ Le.refl R h q⟩⟩
      · have e' : asL ρ S r = some ys := by
          rw [← e]
          unfold asQ
          split
          · rename_i zs; exact (c ⟨_, rfl⟩).elim
          · rfl
        obtain ⟨a, vs, rfl, hs, t⟩ := R.asL h e'
        refine ⟨a, vs, rfl, .inl ⟨hs, fun p ob hp hd => ?_⟩⟩
        obtain ⟨l, R'⟩ := R.frz (o := .frz ob (.tup vs)) hp
        exact post _ _ _ _ l R' (.mkT hd upd_same (RPs.mono l _ _ t)) q
    · exact q.elim
  · exact q.elim
def lstD : NOp := fun rs ρ S k => match rs with
  | [r] => match asQ ρ S r with
    | some xs => k (.lst xs)
    | none => False
  | _ => False
theorem n_lst : OpN X (.type "list") lstD := by
  refine OpN.of call_list_of ?_
  intro F I0 ρ S I σ H xs rs k Q R rr q post
  unfold lstD at q
  split at q
  · split at q
    · rename_i ys e
      obtain ⟨x, _, rfl, h, e2⟩ := rr
      cases e2
      obtain ⟨a, vs, rfl, hs, t⟩ := R.asQ h e
      refine ⟨a, vs, rfl, hs, fun p hp => ?_⟩
      obtain ⟨l, R'⟩ := R.frz (o := .lst vs) hp
      exact post _ _ _ _ l R' (.mkL upd_same (RPs.mono l _ _ t)) q
    · exact q.elim
  · exact q.elim
def intD : NOp := fun rs ρ S k => match rs with
  | [.v (.int i)] => k (.int i)
  | [.v (.bl b)] => k (.int (if b then 1 else 0))
  | [.v (.str s)] => match PySem.intText? s with
    | some n => s.length ≤ 640 ∧ k (.int n)
    | none => False
  | _ => False
theorem n_int : OpN X (.type "int") intD := by
  intro F I0 pins s ρ S I σ τ H xs us rs k Q J R rr rv q post
  unfold intD at q
  split at q
  · obtain ⟨x, _, rfl, h, e⟩ := rr
    cases e; cases h
    exact call_int1 pins s τ H _ us Q J rv (.inl ⟨_, rfl, post _ _ _ _ Le.refl R .mkI q⟩)
  · obtain ⟨x, _, rfl, h, e⟩ := rr
    cases e; cases h
    exact call_int1 pins s τ H _ us Q J rv (.inr ⟨_, rfl, post _ _ _ _ Le.refl R .mkI q⟩)
  · split at q
    · rename_i n e2
      obtain ⟨x, _, rfl, h, e⟩ := rr
      cases e; cases h.1
      exact call_int_str pins s τ H _ us Q J rv ⟨_, n, rfl, e2, q.1, post _ _ _ _ Le.refl R .mkI q.2⟩
    · exact q.elim
  · exact q.elim
/-- the text of an int -/
def numS (i : Int) : Str := Str.ofString (toString i)
def strD : NOp := fun rs ρ S k => match rs with
  | [.v (.int i)] => i.natAbs.log2 < 1920 ∧ k (.str (numS i))
  | [.v (.str s)] => k (.str s)
  | _ => False
theorem n_str : OpN X (.type "str") strD := by
  intro F I0 pins s ρ S I σ τ H xs us rs k Q J R rr rv q post
  unfold strD at q
  split at q
  · obtain ⟨x, _, rfl, h, e⟩ := rr
    cases e; cases h
    exact call_str_int pins s τ H _ us Q J rv ⟨_, rfl, q.1, post _ _ _ _ Le.refl R (.mkS (int_text_fits q.1) (strOk_str _)) q.2⟩
  · obtain ⟨x, _, rfl, h, e⟩ := rr
    cases e; cases h.1
    exact SkE.call_str_str pins s τ H _ us Q J rv ⟨_, rfl, post _ _ _ _ Le.refl R h q⟩
  · exact q.elim
/-- repr of data -/
def reprD : NOp := fun rs ρ S k => match rs with
  | [r] => match asD ρ S r with
    | some p => p.isE = true ∧ p.dep ≤ 50 ∧ p.dat.showable = true ∧ p.dat.shown.length ≤ sizeLine ∧ k (.str p.dat.shown)
    | none => False
  | _ => False
theorem repr_at {A : Around} {E : Value → Shared → Prop} {prog : Program} {w : World} {s : Shared} {u : Value} {d : PyData} {as : List Addr} {Q : Value → Shared → Prop} (r : Reads s.heap u d as) (l : d.canLay0 = true) (hs : d.showable = true) (dp : d.depth ≤ 50) (hu : A.units + 64 < cLine) (hg : A.guards = some []) (hz : d.shown.length ≤ sizeLine)
    (fin : ∀ (h' : Heap) (t tk : Nat), (∀ b o, s.heap.get? b = some o → h'.get? b = some o) → Q (.str d.shown t) { s with heap := h', toks := tk }) : wpAny (model prog w) A (call (.builtin "repr") [u]) Q E s := by
  have hsm : d.hasDict = true → sysModules ∉ as := PyData.noDict_hsm (PyData.hasDict_of_canLay _ l)
  cases r with
  | none => exact PySem.P.repr_of_none (fin s.heap _ _ fun _ _ q => q)
  | bool b => exact PySem.P.repr_of_bool (fin s.heap _ _ fun _ _ q => q)
  | int i t => exact PySem.P.repr_of_int (by simpa [PyData.showable] using hs) (fin s.heap _ _ fun _ _ q => q)
  | str z t => exact PySem.P.repr_of_str (fin s.heap _ _ fun _ _ q => q) hz
  | list h1 h2 h3 h4 => exact repr_of_reads' (.list h1 h2 h3 h4) hs hsm hg (by omega) (fun _ _ q => q) (fun h' u tk hk => fin h' u tk hk) hz
  | tuple h1 h2 h3 h4 => exact repr_of_reads' (.tuple h1 h2 h3 h4) hs hsm hg (by omega) (fun _ _ q => q) (fun h' u tk hk => fin h' u tk hk) hz
  | dict h1 h2 h3 h4 h5 => exact absurd (PyData.hasDict_of_canLay _ l) (by simp [PyData.hasDict])
theorem n_repr (hu : X.A.units + 64 < cLine) (hg : X.A.guards = some []) : OpN X (.builtin "repr") reprD := by
  intro F I0 pins s ρ S I σ τ H xs us rs k Q J R rr rv q post
  unfold reprD at q
  split at q
  · split at q
    · rename_i r p e
      obtain ⟨c1, c2, c3, c4, q⟩ := q
      obtain ⟨x, _, rfl, h, e2⟩ := rr
      cases e2
      obtain ⟨u, rfl, ru⟩ := vals1 rv
      obtain ⟨⟨as, r1⟩, l1⟩ := Rel.asD J R h e ru c1
      exact repr_at r1 l1 c3 c2 hu hg c4 fun h' t tk hk => ⟨.str p.dat.shown, H, J.kept hk, ⟨t, rfl⟩, post _ _ _ _ Le.refl R (.mkS c4 (strOk_shown _ l1)) q⟩
    · exact q.elim
  · exact q.elim
end
end D
/-! D5: iteration: sources (list, tuple, text), enumerate, zip, range, reversed; by deep values. -/
namespace D
open PySem PySem.Spec L2

/-! ### sources -/
/-- what is drawn at turn i -/
abbrev Dr (vs : List V) : Nat → Value → Prop := fun i v => ∃ x, vs[i]? = some x ∧ RelV x v
structure Src (P : Program) (w : World) (K : PySem.W.Frag) (u : Value) (ob : Obj) (adr : List Addr) (vs : List V) (S : Hp → Prop) (own : Addr → Nat → Heap → Prop) : Prop where
  begins : ∀ (X : Cx) (pins : List (Addr × Obj)) (σ : L2.St) (H : Hp) (s : Shared), X.K = K → Inv X pins σ H s → S H → (∃ Hh, Begins u ob Hh ∧ Hh s.heap) ∧ ∀ b ∈ adr, b < s.heap.objs.size
  obj : ∀ it i h, own it i h → ∃ o, h.get? it = some o ∧ ∀ v, o.data ≠ .cell v
  keep : ∀ it i h h', own it i h → (∀ o, h.get? it = some o → h'.get? it = some o) → own it i h'
  start : ∀ it h, h.get? it = some ob → own it 0 h
  self : ∀ (A : Around) (it : Addr) (i : Nat) (s : Shared) (Q : Value → Shared → Prop) (E : Value → Shared → Prop), own it i s.heap → Q (.ref it) s → wpAny (model P w) A (pyIter (.ref it)) Q E s
  draws : ∀ (X : Cx) (pins : List (Addr × Obj)) (σ : L2.St) (H : Hp) (s : Shared) (it : Addr), X.prog = P → X.w = w → X.K = K → X.calm = true → Inv X pins σ H s → S H → it ∉ adr →
    ∃ (src : Heap → Prop), src s.heap ∧ Draws P w X.A.in1 it (it :: adr) vs.length (Dr vs) (fun i h => own it i h ∧ src h) ∧
      ∀ tg, Goes P w X.A tg it (it :: adr) [it] vs.length (fun i v _ => Dr vs i v) (fun i h => own it i h ∧ src h)
theorem draws_mono {prog : Program} {w : World} {A : Around} {it : Addr} {fp : List Addr} {n : Nat} {P P' : Nat → Value → Prop} {St : Nat → Heap → Prop} (d : Draws prog w A it fp n P St) (h : ∀ i v, P i v → P' i v) : Draws prog w A it fp n P' St :=
  ⟨d.live, d.frame, fun i s Q E hi st k => d.item i s Q E hi st fun x h' tk p st' sb => k x h' tk (h _ _ p) st' sb, d.done⟩
theorem dr_of {vs : List V} {its : List Value} (rv : Vals vs its) {i : Nat} {v : Value} (h : its.toArray[i]? = some v) : Dr vs i v := by
  have h' : its[i]? = some v := by simpa using h
  have hl := rv.length
  have hi : i < vs.length := by
    have := (List.getElem?_eq_some_iff.mp h').1
    omega
  obtain ⟨u, hu, r⟩ := rv.get (List.getElem?_eq_getElem hi)
  rw [h'] at hu
  cases hu
  exact ⟨_, List.getElem?_eq_getElem hi, r⟩
def signs (x : Str) : List V := x.cps.toList.map fun c => .str ⟨#[c]⟩
theorem signs_len {x : Str} : (signs x).length = x.cps.size := by simp [signs]
section
variable {P : Program} {w : World} {K : PySem.W.Frag}
theorem src_list {a : Addr} {vs : List V} : Src P w K (.ref a) { cls := .type "list_iterator", data := .fields #[.ref a, .int 0 0] } [a] vs (fun H => SqL K H a vs) (fun it i h => h.IsListIter it a i) where
  begins := fun X pins σ H s hK J hS => by
    subst hK
    obtain ⟨its, rv, p, hz⟩ := J.list hS
    exact ⟨⟨_, begins_list a its.toArray, p.isList⟩, fun b hb => by rw [List.mem_singleton.mp hb]; exact p.lt⟩
  obj := fun it i h ⟨o, e, c, d⟩ => ⟨o, e, fun v z => by rw [d] at z; cases z⟩
  keep := fun it i h h' st k => st.at fun o e => k o e
  start := fun it h e => ⟨_, e, rfl, rfl⟩
  self := fun A it i s Q E st h => (turn_list (K := K) (tg := .Constant .none 0 default) a it).self A i s Q E st h
  draws := fun X pins σ H s it hP hw hK hc J hS hn => by
    subst hP hw hK
    obtain ⟨its, rv, p, hz⟩ := J.list hS
    have hne : a ≠ it := fun e => hn (by simp [e])
    have hlen : its.toArray.size = vs.length := by rw [List.size_toArray, rv.length]
    refine ⟨fun h => h.IsList a its.toArray, p.isList, ?_, fun tg => ?_⟩
    · rw [← hlen]
      exact draws_mono (Draws.list (A := X.A.in1) (J.ok.hd hc) it a hne its.toArray) fun i v h => dr_of rv h
    · rw [← hlen]
      exact (Goes.list (J.ok.hd hc) it a hne its.toArray).mono fun i v _ _ h => dr_of rv h
theorem src_tup {a : Addr} {vs : List V} : Src P w K (.ref a) { cls := .type "tuple_iterator", data := .fields #[.ref a, .int 0 0] } [a] vs (fun H => SqT K H a vs) (fun it i h => h.IsTupleIter it a i) where
  begins := fun X pins σ H s hK J hS => by
    subst hK
    obtain ⟨its, rv, p, hz⟩ := J.tuple hS
    refine ⟨⟨_, begins_tuple a its.toArray, p⟩, fun b hb => ?_⟩
    rw [List.mem_singleton.mp hb]
    obtain ⟨o, e, _⟩ := p
    exact Heap.lt_size e
  obj := fun it i h ⟨o, e, c, d⟩ => ⟨o, e, fun v z => by rw [d] at z; cases z⟩
  keep := fun it i h h' st k => st.at fun o e => k o e
  start := fun it h e => ⟨_, e, rfl, rfl⟩
  self := fun A it i s Q E st h => (turn_tuple (K := K) (tg := .Constant .none 0 default) a it).self A i s Q E st h
  draws := fun X pins σ H s it hP hw hK hc J hS hn => by
    subst hP hw hK
    obtain ⟨its, rv, p, hz⟩ := J.tuple hS
    have hne : a ≠ it := fun e => hn (by simp [e])
    have hlen : its.toArray.size = vs.length := by rw [List.size_toArray, rv.length]
    refine ⟨fun h => h.IsTuple a its.toArray, p, ?_, fun tg => ?_⟩
    · rw [← hlen]
      exact draws_mono (Draws.tuple (A := X.A.in1) (J.ok.hd hc) it a hne its.toArray) fun i v h => dr_of rv h
    · rw [← hlen]
      exact (Goes.tuple (J.ok.hd hc) it a hne its.toArray).mono fun i v _ _ h => dr_of rv h
theorem signs_at {x : Str} {i c : Nat} {u : Tok} (h : x.cps[i]? = some c) : Dr (signs x) i (.str ⟨#[c]⟩ u) :=
  ⟨.str ⟨#[c]⟩, by unfold signs; rw [List.getElem?_map, Array.getElem?_toList, h]; rfl, u, rfl⟩
theorem src_str {x : Str} {t : Tok} : Src P w K (.str x t) { cls := .type (strIterType x), data := .fields #[.str x t, .int 0 0] } [] (signs x) (fun _ => True) (fun it i h => h.IsStrIter it (strIterType x) x t i) where
  begins := fun X pins σ H s hK J hS => ⟨⟨_, begins_text x t, trivial⟩, fun b hb => nomatch hb⟩
  obj := fun it i h ⟨o, e, c, d⟩ => ⟨o, e, fun v z => by rw [d] at z; cases z⟩
  keep := fun it i h h' st k => let ⟨o, e, r⟩ := st; ⟨o, k o e, r⟩
  start := fun it h e => ⟨_, e, rfl, rfl⟩
  self := fun A it i s Q E st h => (turn_str (K := K) (tg := .Constant .none 0 default) it x t (strIterType x) (by unfold strIterType; split <;> simp)).self A i s Q E st h
  draws := fun X pins σ H s it hP hw hK hc J hS hn => by
    subst hP hw hK
    refine ⟨fun _ => True, trivial, ?_, fun tg => ?_⟩
    · rw [signs_len]
      have d := draws_mono (P' := Dr (signs x)) (Draws.text (prog := X.prog) (w := X.w) (A := X.A.in1) (J.ok.hd hc) it x t) (by rintro i v ⟨c, u, h, rfl⟩; exact signs_at h)
      exact ⟨fun i h st => d.live i h st.1, fun i h h' st k => ⟨d.frame i h h' st.1 k, trivial⟩, fun i s Q E hi st k => d.item i s Q E hi st.1 fun y h' tk p st' sb => k y h' tk p ⟨st', trivial⟩ sb, fun s Q E st k => d.done s Q E st.1 k⟩
    · rw [signs_len]
      have d := (Goes.text (prog := X.prog) (w := X.w) (A := X.A) (target := tg) (J.ok.hd hc) it x t).mono (Y' := fun i v _ => Dr (signs x) i v) (by rintro i v _ _ ⟨c, u, h, rfl⟩; exact signs_at h)
      exact ⟨d.sub, fun i h h' st k => ⟨d.frame i h h' st.1 k, trivial⟩, fun i s Q E hi st k => d.goes i s Q E hi st.1 fun y h' tk p st' sb => k y h' tk p ⟨st', trivial⟩ sb, fun s Q E st k => d.stops s Q E st.1 k, fun i s Q E st k => d.self i s Q E st.1 k⟩
end

/-! ### turns -/
/-- one after another -/
def It1 (vs : List V) (S : Hp → Prop) : It := ⟨fun i H => i < vs.length ∧ S H, fun i H x H' => H' = H ∧ vs[i]? = some x, fun i H => i = vs.length ∧ S H⟩
/-- in new tuples -/
def ItN (rows : List (List V)) (S : Hp → Prop) : It :=
  ⟨fun i H => i < rows.length ∧ S H, fun i H x H' => ∃ T row, x = .ref T ∧ H T = none ∧ H' = upd H T (.tup row) ∧ rows[i]? = some row, fun i H => i = rows.length ∧ S H⟩
section
variable {P : Program} {w : World} {K : PySem.W.Frag} {tg : Expr}
theorem turn1 {u : Value} {ob : Obj} {adr : List Addr} {vs : List V} {S : Hp → Prop} {own : Addr → Nat → Heap → Prop} (sr : Src P w K u ob adr vs S own) (it : Addr) (hn : it ∉ adr) : Turn P w K tg (It1 vs S) [it] it (own it) where
  mem := by simp
  obj := fun i h st b hb => by rw [List.mem_singleton.mp hb]; exact sr.obj it i h st
  keep := fun i h h' st k => sr.keep it i h h' st fun o e => k it (by simp) o e
  item := by
    intro X hP hw hK hc i pins s σ H E J hf st hg
    obtain ⟨src, h1, _, G⟩ := sr.draws X pins σ H s it hP hw hK hc J hg.2 hn
    subst hP hw hK
    obtain ⟨g0, g1, g2, g3, g4, g5⟩ := hf it (by simp)
    refine (G tg).goes i s _ E hg.1 ⟨st, h1⟩ fun v h' tk ⟨x, hx, rx⟩ st' kk _ => ?_
    exact ⟨x, H, J.turned (fun b o hb e => kk b o (by simpa using hb) e) g0 g1 g3 g4 g5, rx, ⟨rfl, hx⟩, st'.1, fun b hb => (hf b hb).1⟩
  done := by
    intro X hP hw hK hc i pins s σ H E J hf st hg
    obtain ⟨src, h1, _, G⟩ := sr.draws X pins σ H s it hP hw hK hc J hg.2 hn
    subst hP hw hK
    obtain ⟨g0, g1, g2, g3, g4, g5⟩ := hf it (by simp)
    obtain ⟨rfl, _⟩ := hg
    exact (G tg).stops s _ E ⟨st, h1⟩ fun h' tk kk _ => J.turned (fun b o hb e => kk b o (by simpa using hb) e) g0 g1 g3 g4 g5
  self := fun A i s Q E st h => sr.self A it i s Q E st h
theorem turnN {rows : List (List V)} {S : Hp → Prop} {it : Addr} {fp : List Addr} {tn : Nat → Heap → Prop} (hr : ∀ r ∈ rows, r.length ≤ sizeLine) (mem : it ∈ fp) (obj : ∀ i h, tn i h → ∀ b ∈ fp, ∃ o, h.get? b = some o ∧ ∀ v, o.data ≠ .cell v)
    (keep : ∀ i h h', tn i h → (∀ b ∈ fp, ∀ o, h.get? b = some o → h'.get? b = some o) → tn i h')
    (self : ∀ (A : Around) (i : Nat) (s : Shared) (Q : Value → Shared → Prop) (E : Value → Shared → Prop), tn i s.heap → Q (.ref it) s → wpAny (model P w) A (pyIter (.ref it)) Q E s)
    (go : ∀ (X : Cx) (pins : List (Addr × Obj)) (σ : L2.St) (H : Hp) (s : Shared) (i : Nat), X.prog = P → X.w = w → X.K = K → X.calm = true → Inv X pins σ H s → S H → tn i s.heap →
      ∃ (fp' wr : List Addr) (St : Nat → Heap → Prop), GoesN P w X.A tg it fp' wr rows.length (fun i h₀ v h => ∃ T us row, v = .ref T ∧ h₀.objs.size ≤ T ∧ rows[i]? = some row ∧ Vals row us ∧ h.IsTuple T us.toArray) St ∧ St i s.heap ∧ (∀ j h, St j h → tn j h) ∧ ∀ b ∈ wr, b ∈ fp) :
    Turn P w K tg (ItN rows S) fp it tn where
  mem := mem
  obj := obj
  keep := keep
  self := self
  item := by
    intro X hP hw hK hc i pins s σ H E J hf st hg
    obtain ⟨fp', wr, St, G, st0, back, sub⟩ := go X pins σ H s i hP hw hK hc J hg.2 st
    subst hP hw hK
    refine G.goes i s _ E hg.1 st0 fun v h' tk ⟨T, us, row, ev, hT, hrow, rv, hu⟩ st' kk _ => ?_
    subst ev
    have J1 : Inv X pins σ (upd H T (.tup row)) { s with heap := h', toks := tk } := J.turnedNew (ch := wr) (fun b o hb e => kk b o hb e) (fun b hb => hf b (sub b hb)) hT ⟨hr row (List.mem_of_getElem? hrow), us, rv, hu⟩
    refine ⟨.ref T, _, J1, rfl, ⟨T, row, rfl, J.hok.fresh hT, rfl, hrow⟩, back _ _ st', fun b hb => ?_⟩
    obtain ⟨o, e, _⟩ := obj i s.heap st b hb
    rw [upd_ne (Nat.ne_of_lt (Nat.lt_of_lt_of_le (Heap.lt_size e) hT))]
    exact (hf b hb).1
  done := by
    intro X hP hw hK hc i pins s σ H E J hf st hg
    obtain ⟨fp', wr, St, G, st0, back, sub⟩ := go X pins σ H s i hP hw hK hc J hg.2 st
    subst hP hw hK
    obtain ⟨rfl, _⟩ := hg
    exact G.stops s _ E st0 fun h' tk kk _ => J.turnedL (ch := wr) (fun b o hb e => kk b o hb e) (fun b hb => hf b (sub b hb))

/-- enumerate, from k -/
def rowsE (k : Int) (vs : List V) : List (List V) := vs.mapIdx fun i x => [.int (k + i), x]
theorem rowsE_get {k : Int} {vs : List V} {i : Nat} {x : V} (h : vs[i]? = some x) : (rowsE k vs)[i]? = some [.int (k + i), x] := by
  unfold rowsE; rw [List.getElem?_mapIdx, h]; rfl
theorem turn_en {elts : List Expr} {kk : Nat} {tpos : Pos} {u : Value} {ob : Obj} {adr : List Addr} {vs : List V} {S : Hp → Prop} {own : Addr → Nat → Heap → Prop} (k : Int) (sr : Src P w K u ob adr vs S own) (e it : Addr) (hn : it ∉ adr) (he : e ∉ it :: adr) :
    Turn P w K (.Tuple elts kk tpos) (ItN (rowsE k vs) S) [e, it] e (fun i h => (∃ old, IsEnum h e it (k + (i : Int)) old) ∧ own it i h) := by
  refine turnN (fun r hr => ?_) (by simp) (fun i h st b hb => ?_) (fun i h h' st kk => ⟨st.1.imp fun old q => kk e (by simp) _ q, sr.keep it i h h' st.2 fun o q => kk it (by simp) o q⟩) (fun A i s Q E st h => ?_) fun X pins σ H s i hP hw hK hc J hS st => ?_
  · unfold rowsE at hr
    obtain ⟨i, hi, rfl⟩ := List.mem_mapIdx.mp hr
    show 2 ≤ sizeLine
    decide
  · have e' : b = e ∨ b = it := by simpa using hb
    rcases e' with z | z
    · obtain ⟨old, q⟩ := st.1
      rw [z]; exact ⟨_, q, fun v q => nomatch q⟩
    · rw [z]; exact sr.obj it i h st.2
  · obtain ⟨old, q⟩ := st.1
    exact wpAny_pyIter_enum q h
  · obtain ⟨src, h1, dr, _⟩ := sr.draws X pins σ H s it hP hw hK hc J hS hn
    subst hP hw hK
    refine ⟨e :: it :: adr, [e, it], fun i h => (∃ old, IsEnum h e it (k + (i : Int)) old) ∧ own it i h ∧ src h, ?_, ⟨st.1, st.2, h1⟩, fun j h q => ⟨q.1, q.2.1⟩, fun b hb => hb⟩
    have G := GoesN.enumFrom (elts := elts) (x1 := kk) (pos := tpos) k dr e (fun q => he (by simp [q])) he (by simp)
    rw [show (rowsE k vs).length = vs.length by unfold rowsE; rw [List.length_mapIdx]]
    refine G.mono fun i h₀ v h _ ⟨T, t, x, ev, hT, ⟨y, hy, ry⟩, hI⟩ => ⟨T, [.int (k + i) t, x], [.int (k + i), y], ev, hT, rowsE_get hy, .cons ⟨t, rfl⟩ (.cons ry .nil), hI⟩
def rowsZ (vs ws : List V) : List (List V) := List.zipWith (fun x y => [x, y]) vs ws
/-- zip of two -/
theorem turn_zi {elts : List Expr} {kk : Nat} {tpos : Pos} {u u' : Value} {ob ob' : Obj} {adr adr' : List Addr} {vs ws : List V} {S S' : Hp → Prop} {own own' : Addr → Nat → Heap → Prop} (sr : Src P w K u ob adr vs S own) (sr' : Src P w K u' ob' adr' ws S' own') {z TI TO i1 i2 : Addr}
    (h1 : i1 ∉ adr) (h2 : i2 ∉ adr') (sep : ZipSep2 z TI TO i1 i2 (i1 :: adr) (i2 :: adr')) :
    Turn P w K (.Tuple elts kk tpos) (ItN (rowsZ vs ws) fun H => S H ∧ S' H) [z, TI, TO, i1, i2] z (fun i h => IsZip h z TI TO .none ∧ IsTupOf2 h TI (.ref i1) (.ref i2) ∧ (∃ a1 a2, IsTupOf2 h TO a1 a2) ∧ own i1 i h ∧ own' i2 i h) := by
  refine turnN (fun r hr => ?_) (by simp) (fun i h st b hb => ?_) (fun i h h' st kk => ?_) (fun A i s Q E st h => wpAny_pyIter_zip st.1 h) fun X pins σ H s i hP hw hK hc J hS st => ?_
  · unfold rowsZ at hr
    obtain ⟨i, hi⟩ := List.mem_iff_getElem?.mp hr
    rw [List.getElem?_zipWith] at hi
    split at hi
    · cases hi; show 2 ≤ sizeLine; decide
    · cases hi
  · obtain ⟨q1, q2, ⟨a1, a2, q3⟩, q4, q5⟩ := st
    have e' : b = z ∨ b = TI ∨ b = TO ∨ b = i1 ∨ b = i2 := by simpa using hb
    rcases e' with e | e | e | e | e
    · rw [e]; exact ⟨_, q1, fun v q => nomatch q⟩
    · rw [e]; exact ⟨_, q2, fun v q => nomatch q⟩
    · rw [e]; exact ⟨_, q3, fun v q => nomatch q⟩
    · rw [e]; exact sr.obj i1 i h q4
    · rw [e]; exact sr'.obj i2 i h q5
  · obtain ⟨q1, q2, ⟨a1, a2, q3⟩, q4, q5⟩ := st
    exact ⟨kk z (by simp) _ q1, kk TI (by simp) _ q2, ⟨a1, a2, kk TO (by simp) _ q3⟩, sr.keep i1 i h h' q4 fun o q => kk i1 (by simp) o q, sr'.keep i2 i h h' q5 fun o q => kk i2 (by simp) o q⟩
  · obtain ⟨src, k1, dr, _⟩ := sr.draws X pins σ H s i1 hP hw hK hc J hS.1 h1
    obtain ⟨src', k2, dr', _⟩ := sr'.draws X pins σ H s i2 hP hw hK hc J hS.2 h2
    subst hP hw hK
    refine ⟨z :: TI :: TO :: ((i1 :: adr) ++ (i2 :: adr')), [z, TO, i1, i2], fun i h => IsZip h z TI TO .none ∧ IsTupOf2 h TI (.ref i1) (.ref i2) ∧ (∃ a1 a2, IsTupOf2 h TO a1 a2) ∧ (own i1 i h ∧ src h) ∧ own' i2 i h ∧ src' h, ?_, ⟨st.1, st.2.1, st.2.2.1, ⟨st.2.2.2.1, k1⟩, ⟨st.2.2.2.2, k2⟩⟩, fun j h q => ⟨q.1, q.2.1, q.2.2.1, q.2.2.2.1.1, q.2.2.2.2.1⟩, fun b hb => by simp at hb ⊢; rcases hb with q | q | q | q <;> simp [q]⟩
    have G := GoesN.zip2 (elts := elts) (x1 := kk) (pos := tpos) sep dr dr'
    rw [show (rowsZ vs ws).length = min vs.length ws.length by unfold rowsZ; rw [List.length_zipWith]]
    refine G.mono fun i h₀ v h _ ⟨T, x, y, ev, hT, ⟨p, hp, rp⟩, ⟨q, hq, rq⟩, hI⟩ => ⟨T, [x, y], [p, q], ev, hT, ?_, .cons rp (.cons rq .nil), hI⟩
    unfold rowsZ
    rw [List.getElem?_zipWith, hp, hq]
end

/-! ### iterators begin -/
theorem meets_en1 {v : Value} {o : Obj} {Hh : Heap → Prop} (B : Begins v o Hh) : Meets (Builtin.«enumerate.__new__» ⟨[.type "enumerate", v], []⟩) (fun _ R s => Hh s.heap ∧
    R (.ok (.ret (.ref (s.heap.push o).objs.size))) { s with heap := (s.heap.push o).push ⟨.type "enumerate", none, .fields #[.none, .bool false, .ref s.heap.objs.size, rawInt 0, .none, .none], #[]⟩ }) :=
  .of_wp fun P w A R s h => by
    have hsub := sub_enumerate; obtain ⟨hp, g, d, tk, os⟩ := s; obtain ⟨h1, h⟩ := h
    have q1 : ∀ {A' : Around} {E Q : Value → Shared → Prop}, Q (.ref hp.objs.size) ⟨hp.push o, g, d, tk, os⟩ → wpAny (model P w) A' (pyIter v) Q E ⟨hp, g, d, tk, os⟩ :=
      fun q => B.iter P w _ _ ⟨hp, g, d, tk, os⟩ _ h1 q
    wp_walk using q1
    refine wpAny_stack_any fun st => wpAny_pure ?_; split
    · rename_i c _ _ _ _ _
      cases (c == Value.type "enumerate") <;> (wp_walk using q1; exact ⟨_, rfl, h⟩)
    · wp_walk using q1; exact ⟨_, rfl, h⟩
theorem call_en1 {P : Program} {w : World} {A : Around} {E : Value → Shared → Prop} {s : Shared} {v : Value} {o : Obj} {Hh : Heap → Prop} {Q : Value → Shared → Prop} (B : Begins v o Hh) (h1 : Hh s.heap)
    (h : ∀ h', IsEnum h' (s.heap.objs.size + 1) s.heap.objs.size 0 .none → h'.get? s.heap.objs.size = some o → (∀ b o, s.heap.get? b = some o → h'.get? b = some o) → Q (.ref (s.heap.objs.size + 1)) { s with heap := h' }) :
    wpAny (model P w) A (call (.type "enumerate") [v]) Q E s := by
  refine callType_new F.called_enumerate (by decide) (F.typeCall_enumerate_1 _) (F.newCall_enumerate_1 _) (fun ob => F.args_object_init_2 ob _) F.entry_enumerate_new (meets_en1 B) ⟨h1, ?_⟩
  have hz : (s.heap.push o).objs.size = s.heap.objs.size + 1 := Heap.size_push s.heap o
  show _ ∧ _; rw [hz]
  have he : IsEnum ((s.heap.push o).push ⟨.type "enumerate", none, .fields #[.none, .bool false, .ref s.heap.objs.size, rawInt 0, .none, .none], #[]⟩) (s.heap.objs.size + 1) s.heap.objs.size 0 .none := by
    have := Heap.get?_push_size (s.heap.push o) (o := ⟨.type "enumerate", none, .fields #[.none, .bool false, .ref s.heap.objs.size, rawInt 0, .none, .none], #[]⟩) rfl
    rwa [hz] at this
  exact ⟨⟨_, he, rfl⟩, h _ he (Heap.get?_push_of_some _ (Heap.get?_push_size _ B.free)) fun b o x => Heap.get?_push_of_some _ (Heap.get?_push_of_some _ x)⟩
section
variable {X : Cx} {tg : Expr} {pins : List (Addr × Obj)} {σ : L2.St} {H : Hp} {s : Shared} {R : It → Hp → Prop} {E : Value → Shared → Prop}
theorem notMem_old {adr : List Addr} {n m : Nat} (h : ∀ b ∈ adr, b < n) (k : n ≤ m) : m ∉ adr := fun q => absurd (h m q) (Nat.not_lt.mpr k)
theorem pie1 {u : Value} {ob : Obj} {adr : List Addr} {vs : List V} {S : Hp → Prop} {own : Addr → Nat → Heap → Prop} (sr : Src X.prog X.w X.K u ob adr vs S own) (J : Inv X pins σ H s) (hS : S H) (q : R (It1 vs S) H) : wpAny (model X.prog X.w) X.A (pyIter u) (PIE X pins σ tg R) E s := by
  obtain ⟨⟨Hh, B, hH⟩, ho⟩ := sr.begins X pins σ H s rfl J hS
  refine B.iter X.prog X.w X.A E s _ hH ?_
  exact pi_one (tk := s.toks) J ob (turn1 sr _ (notMem_old ho (Nat.le_refl _))) (sr.start _ _ (Heap.get?_push_size _ B.free)) q
theorem pieE0 {elts : List Expr} {kk : Nat} {tpos : Pos} {u : Value} {ob : Obj} {adr : List Addr} {vs : List V} {S : Hp → Prop} {own : Addr → Nat → Heap → Prop} {k : Int} {h' : Heap} (sr : Src X.prog X.w X.K u ob adr vs S own) (J : Inv X pins σ H s) (hS : S H) (q : R (ItN (rowsE k vs) S) H)
    (he : IsEnum h' (s.heap.objs.size + 1) s.heap.objs.size k .none) (hit : h'.get? s.heap.objs.size = some ob) (hk : ∀ b o, s.heap.get? b = some o → h'.get? b = some o) :
    wpAny (model X.prog X.w) X.A (pyIter (.ref (s.heap.objs.size + 1))) (PIE X pins σ (.Tuple elts kk tpos) R) E { s with heap := h' } := by
  obtain ⟨_, ho⟩ := sr.begins X pins σ H s rfl J hS
  refine wpAny_pyIter_enum (i := k) he ?_
  have fr : ∀ b, s.heap.objs.size ≤ b → FpOk X pins H b := fun b hb => J.fpOk hb (J.hok.fresh hb)
  refine ⟨s.heap.objs.size + 1, [s.heap.objs.size + 1, s.heap.objs.size], _, _, H, rfl, J.kept (t' := s.toks) hk, turn_en k sr _ _ (notMem_old ho (Nat.le_refl _)) (fun m => ?_), ⟨⟨.none, ?_⟩, sr.start _ _ hit⟩, fun b hb => ?_, q⟩
  · rcases List.mem_cons.mp m with m | m
    · exact Nat.succ_ne_self _ m
    · exact notMem_old ho (Nat.le_succ _) m
  · rw [show k + ((0 : Nat) : Int) = k by omega]; exact he
  · have e' : b = s.heap.objs.size + 1 ∨ b = s.heap.objs.size := by simpa using hb
    rcases e' with e | e <;> (rw [e]; exact fr _ (by first | exact Nat.le_succ _ | exact Nat.le_refl _))
theorem pieE {elts : List Expr} {kk : Nat} {tpos : Pos} {u : Value} {ob : Obj} {adr : List Addr} {vs : List V} {S : Hp → Prop} {own : Addr → Nat → Heap → Prop} (sr : Src X.prog X.w X.K u ob adr vs S own) (J : Inv X pins σ H s) (hS : S H) (q : R (ItN (rowsE 0 vs) S) H) :
    wpAny (model X.prog X.w) X.A (call (.type "enumerate") [u]) (fun v s1 => wpAny (model X.prog X.w) X.A (pyIter v) (PIE X pins σ (.Tuple elts kk tpos) R) E s1) E s := by
  obtain ⟨⟨Hh, B, hH⟩, ho⟩ := sr.begins X pins σ H s rfl J hS
  exact call_en1 B hH fun h' he hit hk => pieE0 sr J hS q he hit hk
theorem pieZ {elts : List Expr} {kk : Nat} {tpos : Pos} {u u' : Value} {ob ob' : Obj} {adr adr' : List Addr} {vs ws : List V} {S S' : Hp → Prop} {own own' : Addr → Nat → Heap → Prop} (sr : Src X.prog X.w X.K u ob adr vs S own) (sr' : Src X.prog X.w X.K u' ob' adr' ws S' own') (J : Inv X pins σ H s) (hS : S H) (hS' : S' H)
    (q : R (ItN (rowsZ vs ws) fun H => S H ∧ S' H) H) :
    wpAny (model X.prog X.w) X.A (call (.type "zip") [u, u']) (fun v s1 => wpAny (model X.prog X.w) X.A (pyIter v) (PIE X pins σ (.Tuple elts kk tpos) R) E s1) E s := by
  obtain ⟨⟨Hh, B, hH⟩, ho⟩ := sr.begins X pins σ H s rfl J hS
  obtain ⟨⟨Hh', B', hH'⟩, ho'⟩ := sr'.begins X pins σ H s rfl J hS'
  refine zip_begins2 B B' hH hH' fun h' hz hTI hTO h1 h2 _ hk => wpAny_pyIter_zip hz ?_
  have fr : ∀ b, s.heap.objs.size ≤ b → FpOk X pins H b := fun b hb => J.fpOk hb (J.hok.fresh hb)
  refine ⟨s.heap.objs.size + 4, [s.heap.objs.size + 4, s.heap.objs.size + 2, s.heap.objs.size + 3, s.heap.objs.size, s.heap.objs.size + 1], _, _, H, rfl, J.kept (t' := s.toks) hk,
    turn_zi sr sr' (notMem_old ho (Nat.le_refl _)) (notMem_old ho' (Nat.le_succ _)) (zip_sep2 ho ho'), ⟨hz, hTI, ⟨_, _, hTO⟩, sr.start _ _ h1, sr'.start _ _ h2⟩, fun b hb => fr b ?_, q⟩
  have hb5 : b = s.heap.objs.size + 4 ∨ b = s.heap.objs.size + 2 ∨ b = s.heap.objs.size + 3 ∨ b = s.heap.objs.size ∨ b = s.heap.objs.size + 1 := by simpa using hb
  rcases hb5 with e | e | e | e | e <;> (rw [e]; first | exact Nat.le_add_right _ _ | exact Nat.le_refl _)
end

/-! ### iteration by deep values -/
def signsP (x : Str) : List P := x.cps.toList.map fun c => .str ⟨#[c]⟩
/-- the items of a value -/
def asI : P → Option (List P)
  | .tup xs => some xs
  | .lst xs => some xs
  | .scr xs => some xs
  | .str x => some (signsP x)
  | _ => none
theorem RPs.map {α : Type} {G : Gm} {I : Hp} {f : α → P} {g : α → V} : ∀ (l : List α), (∀ a ∈ l, RP G I (f a) (g a)) → RPs G I (l.map f) (l.map g)
  | [], _ => rfl
  | a :: l, h => ⟨_, _, rfl, h a (List.mem_cons_self ..), RPs.map l fun b hb => h b (List.mem_cons_of_mem _ hb)⟩
theorem src_of {Pr : Program} {w : World} {G : Gm} {I : Hp} {p : P} {x : V} {u : Value} {ps : List P} (rp : RP G I p x) (e : asI p = some ps) (ru : RelV x u) :
    ∃ (ob : Obj) (adr : List Addr) (vs : List V) (S : Hp → Prop) (own : Addr → Nat → Heap → Prop), Src Pr w G.K u ob adr vs S own ∧ (∀ H, Le I H → S H) ∧ RPs G I ps vs := by
  cases p with
  | tup xs =>
    cases e; obtain ⟨a, vs, rfl, h, t⟩ := rp; cases ru
    exact ⟨_, _, vs, _, _, src_tup, fun H l => l.sqt h.sqt, t⟩
  | lst xs =>
    cases e; obtain ⟨a, vs, rfl, h, t⟩ := rp; cases ru
    exact ⟨_, _, vs, _, _, src_list, fun H l => SqL.of (l _ _ h), t⟩
  | scr xs =>
    cases e; obtain ⟨a, vs, rfl, h, t⟩ := rp; cases ru
    exact ⟨_, _, vs, _, _, src_list, fun H l => l.sql h, t⟩
  | str z =>
    cases e; obtain ⟨rfl, h1, h2⟩ := rp; obtain ⟨t, rfl⟩ := ru
    exact ⟨_, _, _, _, _, src_str, fun H l => trivial, RPs.map _ fun c hc => .mkS (by show 1 ≤ sizeLine; decide) (sign_ok h2 hc)⟩
  | _ => cases e
abbrev DSrc := Env → Store → (List P → (Env → Store → Prop) → Env → Store → Prop) → Prop
structure WalkD (G : Gm) (I : Hp) (J : It) (ps : List P) (St : Env → Store → Prop) : Prop where
  goes : ∀ i ρ S I1 σ H, Le I I1 → Rel G ρ S I1 σ H → St ρ S → i < ps.length → J.go i H
  stops : ∀ ρ S I1 σ H, Le I I1 → Rel G ρ S I1 σ H → St ρ S → J.stop ps.length H
  ylds : ∀ i ρ S I1 σ H x H', Le I I1 → Rel G ρ S I1 σ H → St ρ S → i < ps.length → J.yld i H x H' → ∃ p I2, ps[i]? = some p ∧ Le I1 I2 ∧ Rel G ρ S I2 σ H' ∧ RP G I2 p x
def trI (G : Gm) (T : DSrc) : TI := fun σ H R => ∃ (ρ : Env) (S : Store) (I : Hp) (Q0 : List P → (Env → Store → Prop) → Env → Store → Prop), Rel G ρ S I σ H ∧ T ρ S Q0 ∧
  ∀ J H' ρ' S' I' ps St, Le I I' → Rel G ρ' S' I' σ H' → (∀ F', WalkD { G with F := F' } I' J ps St) → Q0 ps St ρ' S' → R J H'
abbrev DI (F I0 : Hp) (X : Cx) (tg e : Expr) (T : DSrc) : Prop := PI X tg e (trI (gm F I0 X) T)
abbrev Tr : Env → Store → Prop := fun _ _ => True
section
variable {G : Gm} {I : Hp} {ps qs : List P} {vs ws : List V} {S S' : Hp → Prop}
mutual
theorem RP.cg {G G' : Gm} {I : Hp} (h : G.K = G'.K) : ∀ (p : P) (x : V), RP G I p x → RP G' I p x
  | .non, _, r => r
  | .bl _, _, r => r
  | .int _, _, r => r
  | .str _, _, r => r
  | .ty _, _, r => r
  | .ref _, _, r => r
  | .tup ps, _, ⟨a, vs, e, s, r⟩ => ⟨a, vs, e, h ▸ s, RPs.cg h ps vs r⟩
  | .row ps, _, ⟨a, vs, e, s, r⟩ => ⟨a, vs, e, h ▸ s, RPs.cg h ps vs r⟩
  | .lst ps, _, ⟨a, vs, e, s, r⟩ => ⟨a, vs, e, s, RPs.cg h ps vs r⟩
  | .scr ps, _, ⟨a, vs, e, s, r⟩ => ⟨a, vs, e, h ▸ s, RPs.cg h ps vs r⟩
  | .dct kvs, _, ⟨a, ds, e, s, r⟩ => ⟨a, ds, e, s, RDs.cg h kvs ds r⟩
  | .ins _ fs, _, ⟨a, dx, gs, e, s, r⟩ => ⟨a, dx, gs, e, h ▸ s, RFs.cg h fs gs r⟩
  | .cl _, x, r => (show x = .ref (cA G'.K _) from h ▸ (show x = .ref (cA G.K _) from r))
theorem RPs.cg {G G' : Gm} {I : Hp} (h : G.K = G'.K) : ∀ (ps : List P) (vs : List V), RPs G I ps vs → RPs G' I ps vs
  | [], _, r => r
  | p :: ps, _, ⟨x, q, e, r, t⟩ => ⟨x, q, e, RP.cg h p x r, RPs.cg h ps q t⟩
theorem RFs.cg {G G' : Gm} {I : Hp} (h : G.K = G'.K) : ∀ (ps : List (Str × P)) (vs : List (Str × V)), RFs G I ps vs → RFs G' I ps vs
  | [], _, r => r
  | (_, p) :: ps, _, ⟨x, q, e, r, t⟩ => ⟨x, q, e, RP.cg h p x r, RFs.cg h ps q t⟩
theorem RDs.cg {G G' : Gm} {I : Hp} (h : G.K = G'.K) : ∀ (ps : List (P × P)) (ds : List (Key × V)), RDs G I ps ds → RDs G' I ps ds
  | [], _, r => r
  | (_, p) :: ps, _, ⟨c, x, q, e, k, r, t⟩ => ⟨c, x, q, e, k, RP.cg h p x r, RDs.cg h ps q t⟩
end
theorem OkO.cg {G G' : Gm} {I H : Hp} {a : Addr} (h : G.K = G'.K) : ∀ {o : SO}, OkO G I H a o → OkO G' I H a o
  | .lst _, ⟨vs, e, r⟩ => ⟨vs, e, RPs.cg h _ _ r⟩
  | .dct _, ⟨ds, e, r⟩ => ⟨ds, e, RDs.cg h _ _ r⟩
  | .ins _ _, ⟨dx, gs, e, r⟩ => ⟨dx, gs, h ▸ e, RFs.cg h _ _ r⟩
theorem walk1 (h : ∀ H, Le I H → S H) (t : RPs G I ps vs) : WalkD G I (It1 vs S) ps Tr where
  goes := fun i ρ S I1 σ H l R _ hi => ⟨by rw [← t.length]; exact hi, h H (l.trans R.sr.imm)⟩
  stops := fun ρ S I1 σ H l R _ => ⟨t.length, h H (l.trans R.sr.imm)⟩
  ylds := fun i ρ S I1 σ H x H' l R _ _ y => by
    obtain ⟨rfl, hx⟩ := y
    obtain ⟨p, hp, r⟩ := t.get' hx
    exact ⟨p, I1, hp, Le.refl, R, RP.mono l _ _ r⟩
def enumP (k : Int) (ps : List P) : List P := ps.mapIdx fun i p => .row [.int (k + i), p]
def zipP (ps qs : List P) : List P := List.zipWith (fun p q => .row [p, q]) ps qs
/-- rows in new tuples -/
theorem walkN {rows : List (List V)} {rs : List P} (h : ∀ H, Le I H → S H) (hl : rs.length = rows.length) (t : ∀ (i : Nat) (row : List V), rows[i]? = some row → ∃ qs : List P, rs[i]? = some (P.row qs) ∧ RPs G I qs row) : WalkD G I (ItN rows S) rs Tr where
  goes := fun i ρ S I1 σ H l R _ hi => ⟨by rw [← hl]; exact hi, h H (l.trans R.sr.imm)⟩
  stops := fun ρ S I1 σ H l R _ => ⟨hl, h H (l.trans R.sr.imm)⟩
  ylds := fun i ρ S I1 σ H x H' l R _ _ y => by
    obtain ⟨T, row, rfl, hT, rfl, hrow⟩ := y
    obtain ⟨qs, hq, r⟩ := t i row hrow
    obtain ⟨l2, R2⟩ := R.frz (o := .tup row) hT
    exact ⟨_, _, hq, l2, R2, RP.mkR upd_same (RPs.mono (l.trans l2) _ _ r)⟩
theorem walkE {k : Int} (h : ∀ H, Le I H → S H) (t : RPs G I ps vs) : WalkD G I (ItN (rowsE k vs) S) (enumP k ps) Tr := by
  refine walkN h (by unfold enumP rowsE; rw [List.length_mapIdx, List.length_mapIdx, t.length]) fun i row e => ?_
  unfold rowsE at e
  rw [List.getElem?_mapIdx] at e
  obtain ⟨x, hx, rfl⟩ := Option.map_eq_some_iff.mp e
  obtain ⟨p, hp, r⟩ := t.get' hx
  exact ⟨[.int (k + i), p], by unfold enumP; rw [List.getElem?_mapIdx, hp]; rfl, _, _, rfl, rfl, _, _, rfl, r, rfl⟩
theorem walkZ (h : ∀ H, Le I H → S H) (h' : ∀ H, Le I H → S' H) (t : RPs G I ps vs) (t' : RPs G I qs ws) : WalkD G I (ItN (rowsZ vs ws) fun H => S H ∧ S' H) (zipP ps qs) Tr := by
  refine walkN (fun H l => ⟨h H l, h' H l⟩) (by unfold zipP rowsZ; rw [List.length_zipWith, List.length_zipWith, t.length, t'.length]) fun i row e => ?_
  unfold rowsZ at e
  rw [List.getElem?_zipWith] at e
  cases hx : vs[i]? with
  | none => rw [hx] at e; cases e
  | some x =>
    cases hy : ws[i]? with
    | none => rw [hx, hy] at e; cases e
    | some y =>
      rw [hx, hy] at e; cases e
      obtain ⟨p, hp, r⟩ := t.get' hx
      obtain ⟨q, hq, r'⟩ := t'.get' hy
      exact ⟨[p, q], by unfold zipP; rw [List.getElem?_zipWith, hp, hq], _, _, rfl, r, _, _, rfl, r', rfl⟩
def rangeP (lo : Int) (n : Nat) : List P := (List.range n).map fun i => .int (lo + (i : Nat))
theorem rangeP_get {lo : Int} {n i : Nat} (h : i < n) : (rangeP lo n)[i]? = some (.int (lo + (i : Nat))) := by
  unfold rangeP; rw [List.getElem?_map, List.getElem?_range h]; rfl
theorem walkR {lo : Int} {n : Nat} : WalkD G I (Itr lo n) (rangeP lo n) Tr where
  goes := fun i ρ S I1 σ H l R _ hi => by show i < n; simpa [rangeP] using hi
  stops := fun ρ S I1 σ H l R _ => by show n ≤ _; simp [rangeP]
  ylds := fun i ρ S I1 σ H x H' l R _ hi y => by
    obtain ⟨rfl, rfl⟩ := y
    exact ⟨_, I1, rangeP_get (by simpa [rangeP] using hi), Le.refl, R, .mkI⟩
end
end D
/-! D6: new objects, targets, statements, loops, comprehensions, methods; by deep values. -/
namespace D
open PySem PySem.Spec L2

/-! ### a new object held aside -/
section
variable {G : Gm} {ρ : Env} {S : Store} {I : Hp} {σ : L2.St} {H : Hp} {A : Addr} {u u' : HO} {o : SO}
abbrev Gm.up (G : Gm) (A : Addr) (u : HO) : Gm := { G with F := upd G.F A u }
theorem RP.gm {G : Gm} (G' : Gm) {I : Hp} {p : P} {x : V} (h : RP G I p x) (e : G.K = G'.K) : RP G' I p x := RP.cg e p x h
theorem RPs.gm {G : Gm} (G' : Gm) {I : Hp} {ps : List P} {xs : List V} (h : RPs G I ps xs) (e : G.K = G'.K) : RPs G' I ps xs := RPs.cg e ps xs h
theorem OkO.gm {G G' : Gm} {I H : Hp} {a : Addr} {o : SO} (h : OkO G I H a o) (e : G.K = G'.K) : OkO G' I H a o := OkO.cg e h
theorem Rel.unused (R : Rel G ρ S I σ H) (h : H A = none) : G.F A = none ∧ I A = none ∧ S A = none := by
  refine ⟨?_, ?_, ?_⟩
  · cases e : G.F A with
    | none => rfl
    | some u => rw [R.sr.fr A u e] at h; cases h
  · cases e : I A with
    | none => rfl
    | some u => rw [R.sr.imm A u e] at h; cases h
  · cases e : S A with
    | none => rfl
    | some u => obtain ⟨v, q⟩ := (R.sr.st A u e).1.there; rw [h] at q; cases q
theorem Rel.toF (R : Rel G ρ S I σ H) (h : H A = none) : Rel (G.up A u) ρ S I σ (upd H A u) := by
  obtain ⟨h1, h2, h3⟩ := R.unused h
  refine ⟨⟨R.sr.i0, fun b w e => ?_, fun b w e => ?_, fun b w e => ?_, fun b w e => ?_⟩, R.len, fun i p e => ?_, fun i o e => ?_, R.ap⟩
  · rw [upd_ne (ne_of_none e h2)]; exact R.sr.imm b w e
  · by_cases c : b = A
    · subst c; rw [show (G.up b u).F b = some u from upd_same] at e; cases e; exact upd_same
    · rw [show (G.up A u).F b = G.F b from upd_ne c] at e; rw [upd_ne c]; exact R.sr.fr b w e
  · by_cases c : b = A
    · subst c; exact ⟨h2, h3⟩
    · rw [show (G.up A u).F b = G.F b from upd_ne c] at e; exact R.sr.fi b w e
  · obtain ⟨k1, k2⟩ := R.sr.st b w e
    have c : b ≠ A := by rintro rfl; rw [h3] at e; cases e
    exact ⟨(k1.gm (G' := G.up A u) rfl).at (upd_ne c), k2⟩
  · obtain ⟨x, k1, k2⟩ := R.vs i p e
    exact ⟨x, k1, RP.gm (G.up A u) k2 rfl⟩
  · obtain ⟨b, k1, k2, k3, k4, k5⟩ := R.ow i o e
    have c : b ≠ A := R.ownNe e k1 h
    exact ⟨b, k1, (k2.gm (G' := G.up A u) rfl).at (upd_ne c), k3, k4, by rw [show (G.up A u).F b = G.F b from upd_ne c]; exact k5⟩
theorem Rel.heldNe (R : Rel (G.up A u) ρ S I σ H) {i : Nat} {o : SO} {b : Addr} (e : ρ[i]? = some (.own o)) (h : σ[i]? = some (some (.ref b))) : b ≠ A := by
  obtain ⟨c, k1, _, _, _, k5⟩ := R.ow i o e
  rw [h] at k1; cases k1
  rintro rfl
  rw [show (G.up b u).F b = some u from upd_same] at k5; cases k5
theorem Rel.held (R : Rel (G.up A u) ρ S I σ H) : H A = some u ∧ I A = none ∧ S A = none := ⟨R.sr.fr A u upd_same, R.sr.fi A u upd_same⟩
theorem Rel.reF (R : Rel (G.up A u) ρ S I σ H) : Rel (G.up A u') ρ S I σ (upd H A u') := by
  obtain ⟨h1, h2, h3⟩ := R.held
  refine ⟨⟨R.sr.i0, fun b w e => ?_, fun b w e => ?_, fun b w e => ?_, fun b w e => ?_⟩, R.len, fun i p e => ?_, fun i o e => ?_, R.ap⟩
  · rw [upd_ne (ne_of_none e h2)]; exact R.sr.imm b w e
  · by_cases c : b = A
    · subst c; rw [show (G.up b u').F b = some u' from upd_same] at e; cases e; exact upd_same
    · rw [show (G.up A u').F b = G.F b from upd_ne c] at e; rw [upd_ne c]; exact R.sr.fr b w ((upd_ne c).trans e)
  · by_cases c : b = A
    · subst c; exact ⟨h2, h3⟩
    · rw [show (G.up A u').F b = G.F b from upd_ne c] at e; exact R.sr.fi b w ((upd_ne c).trans e)
  · obtain ⟨k1, k2⟩ := R.sr.st b w e
    have c : b ≠ A := by rintro rfl; rw [h3] at e; cases e
    exact ⟨(k1.gm (G' := G.up A u') rfl).at (upd_ne c), k2⟩
  · obtain ⟨x, k1, k2⟩ := R.vs i p e
    exact ⟨x, k1, RP.gm (G.up A u') k2 rfl⟩
  · obtain ⟨b, k1, k2, k3, k4, k5⟩ := R.ow i o e
    have c : b ≠ A := R.heldNe e k1
    exact ⟨b, k1, (k2.gm (G' := G.up A u') rfl).at (upd_ne c), k3, k4, by rw [show (G.up A u').F b = G.F b from upd_ne c]; exact (upd_ne c).symm.trans k5⟩
/-- let go: nothing is said of it any more -/
theorem Rel.drop (R : Rel (G.up A u) ρ S I σ H) (hF : G.F A = none) : Rel G ρ S I σ H := by
  refine ⟨⟨R.sr.i0, R.sr.imm, fun b w e => R.sr.fr b w ((upd_ne (ne_of_none e hF)).trans e), fun b w e => R.sr.fi b w ((upd_ne (ne_of_none e hF)).trans e), fun b w e => ?_⟩, R.len, fun i p e => ?_, fun i o e => ?_, R.ap⟩
  · obtain ⟨k1, k2⟩ := R.sr.st b w e
    exact ⟨k1.gm (G' := G) rfl, k2⟩
  · obtain ⟨x, k1, k2⟩ := R.vs i p e
    exact ⟨x, k1, RP.gm (G) k2 rfl⟩
  · obtain ⟨b, k1, k2, k3, k4, k5⟩ := R.ow i o e
    have c : b ≠ A := R.heldNe e k1
    exact ⟨b, k1, k2.gm (G' := G) rfl, k3, k4, (upd_ne c).symm.trans k5⟩
/-- it becomes frozen -/
theorem Rel.heldI (R : Rel (G.up A u) ρ S I σ H) (hF : G.F A = none) : Le I (upd I A u) ∧ Rel G ρ S (upd I A u) σ H := by
  obtain ⟨h1, h2, h3⟩ := R.held
  have hl : Le I (upd I A u) := Le.upd h2
  have R0 := R.drop hF
  refine ⟨hl, ⟨R0.sr.i0.trans hl, fun b w e => ?_, R0.sr.fr, fun b w e => ?_, fun b w e => ?_⟩, R0.len, fun i p e => ?_, fun i o e => ?_, R0.ap⟩
  · by_cases c : b = A
    · subst c; rw [upd_same] at e; cases e; exact h1
    · rw [upd_ne c] at e; exact R0.sr.imm b w e
  · obtain ⟨k1, k2⟩ := R0.sr.fi b w e
    have c : b ≠ A := by rintro rfl; rw [hF] at e; cases e
    exact ⟨by rw [upd_ne c]; exact k1, k2⟩
  · obtain ⟨k1, k2⟩ := R0.sr.st b w e
    have c : b ≠ A := by rintro rfl; rw [h3] at e; cases e
    exact ⟨k1.mono hl, by rw [upd_ne c]; exact k2⟩
  · obtain ⟨x, k1, k2⟩ := R0.vs i p e
    exact ⟨x, k1, RP.mono hl _ _ k2⟩
  · obtain ⟨b, k1, k2, k3, k4, k5⟩ := R0.ow i o e
    have c : b ≠ A := R.heldNe e k1
    exact ⟨b, k1, k2.mono hl, by rw [upd_ne c]; exact k3, k4, k5⟩
/-- the store gets it -/
theorem Rel.heldS (R : Rel (G.up A u) ρ S I σ H) (hF : G.F A = none) (ho : OkO G I H A o) : S A = none ∧ Rel G ρ (ups S A o) I σ H := by
  obtain ⟨h1, h2, h3⟩ := R.held
  have R0 := R.drop hF
  refine ⟨h3, ⟨R0.sr.i0, R0.sr.imm, R0.sr.fr, fun b w e => ?_, fun b w e => ?_⟩, R0.len, R0.vs, fun i o e => ?_, R0.ap⟩
  · obtain ⟨k1, k2⟩ := R0.sr.fi b w e
    have c : b ≠ A := by rintro rfl; rw [hF] at e; cases e
    exact ⟨k1, by rw [ups_ne c]; exact k2⟩
  · by_cases c : b = A
    · subst c; rw [ups_same] at e; cases e; exact ⟨ho, h2⟩
    · rw [ups_ne c] at e; exact R0.sr.st b w e
  · obtain ⟨b, k1, k2, k3, k4, k5⟩ := R0.ow i o e
    have c : b ≠ A := R.heldNe e k1
    exact ⟨b, k1, k2, k3, by rw [ups_ne c]; exact k4, k5⟩
theorem set_cut {ρ : Env} {i m : Nat} {s w : Sl} (e : (ρ.set i s)[m]? = some w) : (m = i ∧ w = s) ∨ (i ≠ m ∧ ρ[m]? = some w) := by
  by_cases c : i = m
  · subst c
    by_cases hi : i < ρ.length
    · rw [List.getElem?_set_self hi] at e; cases e; exact .inl ⟨rfl, rfl⟩
    · rw [List.getElem?_eq_none (by simpa using hi)] at e; cases e
  · rw [List.getElem?_set_ne c] at e; exact .inr ⟨c, e⟩
/-- a slot gets it -/
theorem Rel.heldO (R : Rel (G.up A u) ρ S I σ H) (hF : G.F A = none) (ho : OkO G I H A o) (i : Nat) : Rel G (ρ.set i (.own o)) S I (σ.set i (some (.ref A))) H := by
  obtain ⟨h1, h2, h3⟩ := R.held
  have R0 := R.drop hF
  refine ⟨R0.sr, by simpa using R0.len, fun j q e => ?_, fun j w e => ?_, fun j k w z a hjk e1 e2 k1 k2 => ?_⟩
  · rcases set_cut e with ⟨_, q⟩ | ⟨c, e⟩
    · cases q
    · rw [List.getElem?_set_ne c]; exact R0.vs j q e
  · rcases set_cut e with ⟨rfl, q⟩ | ⟨c, e⟩
    · cases q
      have hj : j < σ.length := by
        have := (List.getElem?_eq_some_iff.mp e).1
        rw [R0.len]; simpa using this
      exact ⟨A, List.getElem?_set_self hj, ho, h2, h3, hF⟩
    · rw [List.getElem?_set_ne c]; exact R0.ow j w e
  · have here : ∀ {m : Nat} {w : SO} {x : V}, (ρ.set i (.own o))[m]? = some (.own w) → (σ.set i (some (.ref A)))[m]? = some (some x) → m = i → x = .ref A := by
      rintro m w x e k rfl
      have hj : m < σ.length := by
        have := (List.getElem?_eq_some_iff.mp e).1
        rw [R0.len]; simpa using this
      rw [List.getElem?_set_self hj] at k; cases k; rfl
    rcases set_cut e1 with ⟨q, _⟩ | ⟨c1, f1⟩
    · rcases set_cut e2 with ⟨q2, _⟩ | ⟨c2, f2⟩
      · exact hjk (q.trans q2.symm)
      · cases here e1 k1 q
        rw [List.getElem?_set_ne c2] at k2
        exact R.heldNe f2 k2 rfl
    · rcases set_cut e2 with ⟨q2, _⟩ | ⟨c2, f2⟩
      · cases here e2 k2 q2
        rw [List.getElem?_set_ne c1] at k1
        exact R.heldNe f1 k1 rfl
      · rw [List.getElem?_set_ne c1] at k1
        rw [List.getElem?_set_ne c2] at k2
        exact R0.ap j k w z a hjk f1 f2 k1 k2
end
abbrev DNw := Env → Store → (SO → Env → Store → Prop) → Prop
/-- an expression that gives a new object -/
def trN (G : Gm) (T : DNw) : TE := fun σ H Q => ∃ (ρ : Env) (S : Store) (I : Hp) (Q0 : SO → Env → Store → Prop), Rel G ρ S I σ H ∧ T ρ S Q0 ∧
  ∀ A H' o u ρ' S' I', Le I I' → G.F A = none → Rel (G.up A u) ρ' S' I' σ H' → OkO G I' H' A o → Q0 o ρ' S' → Q (.ref A) H'
abbrev DN (F I0 : Hp) (X : Cx) (e : Expr) (T : DNw) : Prop := PE X e (trN (gm F I0 X) T)
def frzO : SO → Option P
  | .lst xs => some (.lst xs)
  | .dct kvs => some (.dct kvs)
  | .ins C fs => some (.ins C fs)
  | _ => none
theorem OkO.frz {G : Gm} {I H : Hp} {A : Addr} {u : HO} {o : SO} {p : P} (h : OkO G I H A o) (e : frzO o = some p) (hu : H A = some u) (hl : Le I (upd I A u)) : RP G (upd I A u) p (.ref A) := by
  cases o with
  | lst xs =>
    cases e; obtain ⟨vs, h1, t⟩ := h
    rw [hu] at h1; cases h1
    exact ⟨A, vs, rfl, upd_same, RPs.mono hl _ _ t⟩
  | dct kvs =>
    cases e; obtain ⟨ds, h1, t⟩ := h
    rw [hu] at h1; cases h1
    exact ⟨A, ds, rfl, upd_same, RDs.mono hl _ _ t⟩
  | ins C fs =>
    cases e; obtain ⟨dx, gs, h1, t⟩ := h
    rw [hu] at h1; cases h1
    exact ⟨A, dx, gs, rfl, upd_same, RFs.mono hl _ _ t⟩
  | set _ => cases e
def TFz (T : DNw) : DT := fun ρ S Q => T ρ S fun o ρ1 S1 => match frzO o with
  | some p => Q (.v p) ρ1 S1
  | none => False
def TSt (T : DNw) : DT := fun ρ S Q => T ρ S fun o ρ1 S1 => ∀ a, S1 a = none → Q (.v (.ref a)) ρ1 (ups S1 a o)
section
variable {X : Cx} {F I0 : Hp} {e : Expr} {T : DNw}
theorem d_frN (h : DN F I0 X e T) : DE F I0 X e (TFz T) := by
  refine h.weak fun σ H Q ⟨ρ, S, I, Q0, R, q, post⟩ => ⟨ρ, S, I, _, R, q, fun A H' o u ρ' S' I' l hF R' ho q => ?_⟩
  split at q
  · rename_i p e
    obtain ⟨l2, R2⟩ := R'.heldI hF
    exact post _ _ (.v p) _ _ _ (l.trans l2) R2 (ho.frz e R'.held.1 l2) q
  · exact q.elim
theorem d_stN (h : DN F I0 X e T) : DE F I0 X e (TSt T) := by
  refine h.weak fun σ H Q ⟨ρ, S, I, Q0, R, q, post⟩ => ⟨ρ, S, I, _, R, q, fun A H' o u ρ' S' I' l hF R' ho q => ?_⟩
  obtain ⟨h3, R2⟩ := R'.heldS hF ho
  exact post _ _ (.v (.ref A)) _ _ _ l R2 (by exact rfl) (q A h3)
end
/-- [a, b, ..] -/
def NLst (u : DA) : DNw := fun ρ S Q => u ρ S fun rs ρ1 S1 => match vals rs with
  | some ps => ps.length ≤ sizeLine ∧ Q (.lst ps) ρ1 S1
  | none => False
section
variable {X : Cx} {F I0 : Hp} {pos : Pos}
theorem n_disp {es : List Expr} {u : DA} (h : DAs F I0 X es u) : DN F I0 X (.List es pos) (NLst u) := by
  refine (pe_lst h).weak fun σ H Q ⟨ρ, S, I, Q0, R, h, post⟩ => ⟨ρ, S, I, _, R, h, fun xs H1 rs ρ1 S1 I1 l1 R1 rr q => ?_⟩
  split at q
  · rename_i ps e
    have t := vals_of rr e
    exact ⟨by rw [← t.length]; exact q.1, fun p hp => post p _ (.lst ps) _ _ _ _ l1 (R1.unused hp).1 (R1.toF (u := .lst xs) hp) ⟨xs, upd_same, t⟩ q.2⟩
  · exact q.elim
end

/-! ### sources as expressions -/
def ISeq (T : DT) : DSrc := fun ρ S Q => T ρ S fun r ρ1 S1 => match r with
  | .v (.ref a) => match S1 a with
    | some (.lst xs) => Q xs (fun _ S2 => S2 a = some (.lst xs)) ρ1 S1
    | _ => False
  | .v p => match asI p with
    | some ps => Q ps Tr ρ1 S1
    | none => False
  | .loc _ => False
def IEn (A : DA) : DSrc := fun ρ S Q => A ρ S fun rs ρ1 S1 => match rs with
  | [.v p] => match asI p with
    | some ps => Q (enumP 0 ps) Tr ρ1 S1
    | none => False
  | _ => False
def IZi (A : DA) : DSrc := fun ρ S Q => A ρ S fun rs ρ1 S1 => match rs with
  | [.v p, .v q] => match asI p, asI q with
    | some ps, some qs => Q (zipP ps qs) Tr ρ1 S1
    | _, _ => False
  | _ => False
def smallI (i : Int) : Prop := -(2 ^ 62) ≤ i ∧ i < 2 ^ 62
def IR1 (A : DA) : DSrc := fun ρ S Q => A ρ S fun rs ρ1 S1 => match rs with
  | [.v (.int j)] => smallI j ∧ Q (rangeP 0 j.toNat) Tr ρ1 S1
  | _ => False
def IR2 (A : DA) : DSrc := fun ρ S Q => A ρ S fun rs ρ1 S1 => match rs with
  | [.v (.int i), .v (.int j)] => smallI i ∧ smallI j ∧ Q (rangeP i (j - i).toNat) Tr ρ1 S1
  | _ => False
section
variable {X : Cx} {F I0 : Hp} {tg e e2 : Expr} {T : DT} {A : DA} {p pos tpos : Pos} {elts : List Expr} {kk : Nat}
theorem walkL {G : Gm} {I : Hp} {a : Addr} {xs : List P} : WalkD G I (Itl G.K a) xs (fun _ S => S a = some (.lst xs)) where
  goes := fun i ρ S I1 σ H l R st hi => by
    obtain ⟨⟨vs, h1, t⟩, _⟩ := R.sr.st a _ st
    obtain ⟨x, hx, _⟩ := t.get (List.getElem?_eq_getElem hi)
    exact ⟨vs, x, SqL.of h1, hx⟩
  stops := fun ρ S I1 σ H l R st => by
    obtain ⟨⟨vs, h1, t⟩, _⟩ := R.sr.st a _ st
    exact ⟨vs, SqL.of h1, by rw [t.length]; exact Nat.le_refl _⟩
  ylds := fun i ρ S I1 σ H x H' l R st hi y => by
    obtain ⟨⟨vs, h1, t⟩, _⟩ := R.sr.st a _ st
    obtain ⟨rfl, k⟩ := y
    obtain ⟨p, hp, r⟩ := t.get' (k vs (SqL.of h1))
    exact ⟨p, I1, hp, Le.refl, R, r⟩
theorem i_seq (h : DE F I0 X e T) : DI F I0 X tg e (ISeq T) := by
  refine ⟨fun pins s σ H Rz J q => ?_⟩
  obtain ⟨ρ, S, I, Q0, R, q, post⟩ := q
  refine thn (h.run pins s σ H (fun x H1 => ∃ r ρ1 S1 I1, Le I I1 ∧ Rel (gm F I0 X) ρ1 S1 I1 σ H1 ∧ RR (gm F I0 X) I1 σ r x ∧ (match r with
      | .v (.ref a) => match S1 a with
        | some (.lst xs) => Q0 xs (fun _ S2 => S2 a = some (.lst xs)) ρ1 S1
        | _ => False
      | .v p => match asI p with
        | some ps => Q0 ps Tr ρ1 S1
        | none => False
      | .loc _ => False)) J ⟨ρ, S, I, _, R, q, fun x H' r ρ' S' I' l R' rr q => ⟨r, ρ', S', I', l, R', rr, q⟩⟩) fun v s1 ⟨x, H1, J1, rx, r, ρ1, S1, I1, l, R1, rr, q⟩ => ?_
  split at q
  · rename_i a
    split at q
    · rename_i xs e
      cases rr; cases rx
      obtain ⟨⟨vs, h1, t⟩, _⟩ := R1.sr.st a _ e
      obtain ⟨its, rv, pl, hz⟩ := J1.list (SqL.of h1)
      refine wpAny_pyIter_list pl.isList ?_
      exact pi_one (tk := s1.toks) J1 _ (turn_list a _) ⟨_, Heap.get?_push_size _ rfl, rfl, rfl⟩ (post _ _ _ _ _ _ _ l R1 (fun F' => walkL) q)
    · exact q.elim
  · rename_i p _
    split at q
    · rename_i ps e
      obtain ⟨ob, adr, vs, Sx, own, sr, hs, t⟩ := src_of (G := gm F I0 X) rr e rx
      exact pie1 sr J1 (hs H1 R1.sr.imm) (post _ _ _ _ _ _ _ l R1 (fun F' => walk1 hs (RPs.gm { gm F I0 X with F := F' } t rfl)) q)
    · exact q.elim
  · exact q.elim
theorem i_en (hg : Gl X "enumerate") (hm : X.mg "enumerate" = none) (ha : DAs F I0 X [e] A) (hs : starEach [e] X.env = [(false, eval e X.env)] := by rfl) : DI F I0 X (.Tuple elts kk tpos) (.Call (.Name "enumerate" p) [e] [] pos) (IEn A) := by
  refine ⟨fun pins s σ H Rz J q => ?_⟩
  obtain ⟨ρ, S, I, Q0, R, q, post⟩ := q
  refine PyProof.Rows.Call_ (ld_blt J hg hm PyProof.Rows.boot_enumerate (PyProof.Rows.callWith_type1 (thn (ha.run pos pins s σ H (fun xs H1 => ∃ rs ρ1 S1 I1, Le I I1 ∧ Rel (gm F I0 X) ρ1 S1 I1 σ H1 ∧ RRs (gm F I0 X) I1 σ rs xs ∧ (match rs with
      | [.v p] => match asI p with
        | some ps => Q0 (enumP 0 ps) Tr ρ1 S1
        | none => False
      | _ => False)) J ⟨ρ, S, I, _, R, q, fun x H' r ρ' S' I' l R' rr q => ⟨r, ρ', S', I', l, R', rr, q⟩⟩) fun us s1 ⟨xs, H1, J1, rx, rs, ρ1, S1, I1, l, R1, rr, q⟩ => ?_) hs rfl))
  split at q
  · split at q
    · rename_i p _ ps e
      obtain ⟨x, _, rfl, h1, rfl⟩ := rr
      obtain ⟨u, rfl, ru⟩ := rx.one
      obtain ⟨ob, adr, vs, Sx, own, sr, hs, t⟩ := src_of (G := gm F I0 X) h1 e ru
      exact pieE sr J1 (hs H1 R1.sr.imm) (post _ _ _ _ _ _ _ l R1 (fun F' => walkE hs (RPs.gm { gm F I0 X with F := F' } t rfl)) q)
    · exact q.elim
  · exact q.elim
theorem i_zi (hg : Gl X "zip") (hm : X.mg "zip" = none) (ha : DAs F I0 X [e, e2] A) (hs : starEach [e, e2] X.env = (false, eval e X.env) :: starEach [e2] X.env := by rfl) (hpl : (backTo pos (starEach [e2] X.env)).any (·.1) = false := by rfl) :
    DI F I0 X (.Tuple elts kk tpos) (.Call (.Name "zip" p) [e, e2] [] pos) (IZi A) := by
  refine ⟨fun pins s σ H Rz J q => ?_⟩
  obtain ⟨ρ, S, I, Q0, R, q, post⟩ := q
  refine PyProof.Rows.Call_ (ld_blt J hg hm PyProof.Rows.boot_zip (PyProof.Rows.callWith_type1 (thn (ha.run pos pins s σ H (fun xs H1 => ∃ rs ρ1 S1 I1, Le I I1 ∧ Rel (gm F I0 X) ρ1 S1 I1 σ H1 ∧ RRs (gm F I0 X) I1 σ rs xs ∧ (match rs with
      | [.v p, .v q] => match asI p, asI q with
        | some ps, some qs => Q0 (zipP ps qs) Tr ρ1 S1
        | _, _ => False
      | _ => False)) J ⟨ρ, S, I, _, R, q, fun x H' r ρ' S' I' l R' rr q => ⟨r, ρ', S', I', l, R', rr, q⟩⟩) fun us s1 ⟨xs, H1, J1, rx, rs, ρ1, S1, I1, l, R1, rr, q⟩ => ?_) hs hpl))
  split at q
  · split at q
    · rename_i p p' _ _ ps qs e e'
      obtain ⟨x, _, rfl, h1, y, _, rfl, h2, rfl⟩ := rr
      obtain ⟨u, u', rfl, ru, ru'⟩ := rx.two
      obtain ⟨ob, adr, vs, Sx, own, sr, hs, t⟩ := src_of (G := gm F I0 X) h1 e ru
      obtain ⟨ob', adr', vs', Sx', own', sr', hs', t'⟩ := src_of (G := gm F I0 X) h2 e' ru'
      exact pieZ sr sr' J1 (hs H1 R1.sr.imm) (hs' H1 R1.sr.imm) (post _ _ _ _ _ _ _ l R1 (fun F' => walkZ hs hs' (RPs.gm { gm F I0 X with F := F' } t rfl) (RPs.gm { gm F I0 X with F := F' } t' rfl)) q)
    · exact q.elim
  · exact q.elim
theorem _root_.L2.PI.weak {X : Cx} {tg e : Expr} {t t' : TI} (h : PI X tg e t) (k : ∀ σ H Q, t' σ H Q → t σ H Q) : PI X tg e t' := ⟨fun p s σ H Q I q => h.run p s σ H Q I (k _ _ _ q)⟩
theorem i_r1 (hg : Gl X "range") (hm : X.mg "range" = none) (ha : DAs F I0 X [e] A) (hs : starEach [e] X.env = [(false, eval e X.env)] := by rfl) : DI F I0 X tg (.Call (.Name "range" p) [e] [] pos) (IR1 A) := by
  refine (pi_range1 hg hm ha hs).weak fun σ H Rz ⟨ρ, S, I, Q0, R, q, post⟩ => ⟨ρ, S, I, _, R, q, fun xs H' rs ρ' S' I' l R' rr q => ?_⟩
  split at q
  · rename_i j
    obtain ⟨x, _, rfl, h1, rfl⟩ := rr
    cases h1
    exact ⟨j, rfl, q.1.1, q.1.2, post _ _ _ _ _ _ _ l R' (fun F' => walkR) q.2⟩
  · exact q.elim
theorem i_r2 (hg : Gl X "range") (hm : X.mg "range" = none) (ha : DAs F I0 X [e, e2] A) (hs : starEach [e, e2] X.env = [(false, eval e X.env), (false, eval e2 X.env)] := by rfl) (hs2 : starEach [e2] X.env = [(false, eval e2 X.env)] := by rfl) : DI F I0 X tg (.Call (.Name "range" p) [e, e2] [] pos) (IR2 A) := by
  refine (pi_range2 hg hm ha hs hs2).weak fun σ H Rz ⟨ρ, S, I, Q0, R, q, post⟩ => ⟨ρ, S, I, _, R, q, fun xs H' rs ρ' S' I' l R' rr q => ?_⟩
  split at q
  · rename_i i j
    obtain ⟨x, _, rfl, h1, y, _, rfl, h2, rfl⟩ := rr
    cases h1; cases h2
    exact ⟨i, j, rfl, ⟨q.1.1, q.1.2, q.2.1.1, q.2.1.2⟩, post _ _ _ _ _ _ _ l R' (fun F' => walkR) q.2.2⟩
  · exact q.elim
end
end D
/-! D7: targets, statements, loops, comprehensions, methods; by deep values. -/
namespace D
open PySem PySem.Spec L2

/-! ### targets -/
abbrev DG := P → Env → Store → (Env → Store → Prop) → Prop
abbrev DGs := List P → Env → Store → (Env → Store → Prop) → Prop
/-- the other slots stay -/
structure Only (W : Nat → Bool) (σ σ' : L2.St) : Prop where
  len : σ'.length = σ.length
  keep : ∀ i, W i = false → σ'[i]? = σ[i]?
theorem Only.refl {W : Nat → Bool} {σ : L2.St} : Only W σ σ := ⟨rfl, fun _ _ => rfl⟩
theorem Only.trans {W : Nat → Bool} {σ σ' σ2 : L2.St} (h : Only W σ σ') (k : Only W σ' σ2) : Only W σ σ2 := ⟨k.len.trans h.len, fun i e => (k.keep i e).trans (h.keep i e)⟩
abbrev WA : Nat → Bool := fun _ => true
def trG (G : Gm) (W : Nat → Bool) (T : DG) : TG := fun x σ H Q => ∃ (ρ : Env) (S : Store) (I : Hp) (p : P) (Q0 : Env → Store → Prop), Rel G ρ S I σ H ∧ RP G I p x ∧ T p ρ S Q0 ∧
  ∀ σ' H' ρ' S' I', Only W σ σ' → Le I I' → Rel G ρ' S' I' σ' H' → Q0 ρ' S' → Q σ' H'
def trGs (G : Gm) (W : Nat → Bool) (T : DGs) : TGs := fun xs σ H Q => ∃ (ρ : Env) (S : Store) (I : Hp) (ps : List P) (Q0 : Env → Store → Prop), Rel G ρ S I σ H ∧ RPs G I ps xs ∧ T ps ρ S Q0 ∧
  ∀ σ' H' ρ' S' I', Only W σ σ' → Le I I' → Rel G ρ' S' I' σ' H' → Q0 ρ' S' → Q σ' H'
abbrev DGt (F I0 : Hp) (X : Cx) (W : Nat → Bool) (tg : Expr) (T : DG) : Prop := PG X tg (trG (gm F I0 X) W T)
abbrev DGts (F I0 : Hp) (X : Cx) (W : Nat → Bool) (tg : List Expr) (T : DGs) : Prop := PGs X tg (trGs (gm F I0 X) W T)
theorem _root_.L2.PG.weak {X : Cx} {tg : Expr} {t t' : TG} (h : PG X tg t) (k : ∀ v σ H Q, t' v σ H Q → t v σ H Q) : PG X tg t' := ⟨fun p s σ H v u Q I r q => h.run p s σ H v u Q I r (k _ _ _ _ q)⟩
theorem _root_.L2.PGs.weak {X : Cx} {tg : List Expr} {t t' : TGs} (h : PGs X tg t) (k : ∀ v σ H Q, t' v σ H Q → t v σ H Q) : PGs X tg t' := ⟨fun p s σ H v u Q I r q => h.run p s σ H v u Q I r (k _ _ _ _ q)⟩
def GN (i : Nat) : DG := fun p ρ S Q => Q (ρ.set i (.v p)) S
def GNil : DGs := fun ps ρ S Q => match ps with
  | [] => Q ρ S
  | _ => False
def GCons (t : DG) (u : DGs) : DGs := fun ps ρ S Q => match ps with
  | p :: r => t p ρ S fun ρ1 S1 => u r ρ1 S1 Q
  | [] => False
def GT (n : Nat) (t : DGs) : DG := fun p ρ S Q => match p with
  | .tup ps => ps.length = n ∧ t ps ρ S Q
  | .row ps => ps.length = n ∧ t ps ρ S Q
  | _ => False
/-- o[i] = p, o a list of the store or of a slot -/
def setD : R → R → P → Env → Store → (Env → Store → Prop) → Prop
  | .v (.ref a), .v (.int k), p, ρ, S, Q => match S a with
    | some (.lst xs) => match ixN xs.length k with
      | some j => Q ρ (ups S a (.lst (xs.set j p)))
      | none => False
    | _ => False
  | .loc i, .v (.int k), p, ρ, S, Q => match ρ[i]? with
    | some (.own (.lst xs)) => match ixN xs.length k with
      | some j => Q (ρ.set i (.own (.lst (xs.set j p)))) S
      | none => False
    | _ => False
  | _, _, _, _, _, _ => False
def GS (To Ti : DT) : DG := fun p ρ S Q => To ρ S fun o ρ1 S1 => Ti ρ1 S1 fun i ρ2 S2 => setD o i p ρ2 S2 Q
/-- what the store of o[i] does -/
abbrev stSub (o i : Expr) (pos : Pos) (env : PySem.Env) (z : Value) : Sem Unit := do
  let a ← holding [z] (eval o env)
  let b ← holding [z, a] (eval i env)
  standAt pos
  holding [z, a, b] (setItem a b z)
  release [z, a, b] []
section
variable {X : Cx} {F I0 : Hp} {pos : Pos} {W : Nat → Bool}
theorem g_n {i : Nat} {x : Str} (hw : W i = true) (hN : X.N.Nodup) (hi : X.N[i]? = some x) (hx : Loc X.env.scope x) (hf : X.fn x = true ∨ X.env.scope.names.lookup x = some .local := by first | exact .inl rfl | exact .inr rfl | assumption) : DGt F I0 X W (.Name x pos) (GN i) := by
  refine (pg_name hN hi hx hf).weak fun v σ H Q ⟨ρ, S, I, p, Q0, R, rp, q, post⟩ => ?_
  exact post _ _ _ _ _ ⟨List.length_set, fun j e => List.getElem?_set_ne (by rintro rfl; rw [hw] at e; cases e)⟩ Le.refl (R.put rp) q
theorem gs_nil : DGts F I0 X W [] GNil := by
  refine pgs_nil.weak fun v σ H Q ⟨ρ, S, I, p, Q0, R, rp, q, post⟩ => ?_
  unfold GNil at q
  split at q
  · exact ⟨rp, post _ _ _ _ _ .refl Le.refl R q⟩
  · exact q.elim
theorem gs_cons {e : Expr} {es : List Expr} {t : DG} {u : DGs} (h1 : DGt F I0 X W e t) (h2 : DGts F I0 X W es u) (hs : (assignEach (e :: es) X.env).map (·.2) = assign e X.env :: (assignEach es X.env).map (·.2) := by rfl) : DGts F I0 X W (e :: es) (GCons t u) := by
  refine (pgs_cons h1 h2 hs).weak fun v σ H Q ⟨ρ, S, I, p, Q0, R, rp, q, post⟩ => ?_
  unfold GCons at q
  split at q
  · rename_i p r
    obtain ⟨x, xs, rfl, h3, h4⟩ := rp
    refine ⟨x, xs, rfl, ρ, S, I, p, _, R, h3, q, fun σ1 H1 ρ1 S1 I1 o1 l1 R1 q1 => ⟨ρ1, S1, I1, r, _, R1, RPs.mono l1 _ _ h4, q1, fun σ2 H2 ρ2 S2 I2 o2 l2 R2 q2 => post _ _ _ _ _ (o1.trans o2) (l1.trans l2) R2 q2⟩⟩
  · exact q.elim
theorem g_t {es : List Expr} {k : Nat} {t : DGs} {n : Nat} (hc : X.calm = true) (h : DGts F I0 X W es t) (hn : (assignEach es X.env).length = n := by rfl) (hst : (assignEach es X.env).findIdx? (·.1) = none := by rfl) : DGt F I0 X W (.Tuple es k pos) (GT n t) := by
  refine (pg_tup hc h hn hst).weak fun v σ H Q ⟨ρ, S, I, p, Q0, R, rp, q, post⟩ => ?_
  unfold GT at q
  split at q
  · obtain ⟨a, vs, rfl, h1, t1⟩ := rp
    exact ⟨a, vs, rfl, R.sr.imm.sqt h1.sqt, by rw [← t1.length]; exact q.1, ρ, S, I, _, _, R, t1, q.2, post⟩
  · obtain ⟨a, vs, rfl, h1, t1⟩ := rp
    exact ⟨a, vs, rfl, R.sr.imm.sqt h1, by rw [← t1.length]; exact q.1, ρ, S, I, _, _, R, t1, q.2, post⟩
  · exact q.elim
theorem g_s {o i : Expr} {To Ti : DT} (ho : DE F I0 X o To) (hi : DE F I0 X i Ti) (ha : ∀ v, assign (.Subscript o i pos) X.env v = stSub o i pos X.env v := by intro _; rfl) : DGt F I0 X W (.Subscript o i pos) (GS To Ti) := by
  refine (pg_sub ho hi set_list ha).weak fun v σ H Q ⟨ρ, S, I, p, Q0, R, rp, q, post⟩ => ?_
  refine ⟨ρ, S, I, _, R, q, fun x H1 r ρ1 S1 I1 l1 R1 rr q1 => ⟨ρ1, S1, I1, _, R1, q1, fun y H2 r2 ρ2 S2 I2 l2 R2 rr2 q2 => ?_⟩⟩
  have rp2 := RP.mono (l1.trans l2) _ _ rp
  have rr := rr.mono l2
  have hset : ∀ {a : Addr} {k : Int} {xs : List P} {j : Nat}, x = .ref a → y = .int k → S2 a = some (.lst xs) → ixN xs.length k = some j → Q0 ρ2 (ups S2 a (.lst (xs.set j p))) → rSetL x y v H2 fun H3 => Q σ H3 := by
    rintro a k xs j rfl rfl e hj q2
    obtain ⟨⟨vs, h1, t⟩, _⟩ := R2.sr.st a _ e
    exact ⟨a, vs, k, j, rfl, rfl, h1, by rw [← t.length]; exact hj, post _ _ _ _ _ .refl (l1.trans l2) (R2.setSt e (o' := .lst (xs.set j p)) ⟨_, upd_same, t.set rp2 j⟩) q2⟩
  have hown : ∀ {i : Nat} {k : Int} {xs : List P} {j : Nat}, σ[i]? = some (some x) → y = .int k → ρ2[i]? = some (.own (.lst xs)) → ixN xs.length k = some j → Q0 (ρ2.set i (.own (.lst (xs.set j p)))) S2 → rSetL x y v H2 fun H3 => Q σ H3 := by
    rintro i k xs j rr rfl e hj q2
    obtain ⟨a, h0, ⟨vs, h1, t⟩, _⟩ := R2.ow i _ e
    have : some (some x) = some (some (V.ref a)) := rr.symm.trans h0
    cases this
    exact ⟨a, vs, k, j, rfl, rfl, h1, by rw [← t.length]; exact hj, post _ _ _ _ _ .refl (l1.trans l2) (R2.setOwn e h0 (o' := .lst (xs.set j p)) ⟨_, upd_same, t.set rp2 j⟩) q2⟩
  unfold setD at q2
  split at q2
  · split at q2
    · split at q2
      · exact hset rr rr2 (by assumption) (by assumption) q2
      · exact q2.elim
    · exact q2.elim
  · split at q2
    · split at q2
      · exact hown rr rr2 (by assumption) (by assumption) q2
      · exact q2.elim
    · exact q2.elim
  · exact q2.elim
end

/-! ### statements -/
def SNext : DS := fun D ρ S => D.nx ρ S
def SSeq (t u : DS) : DS := fun D ρ S => t { D with nx := u D } ρ S
def SExpr (T : DT) : DS := fun D ρ S => T ρ S fun _ ρ1 S1 => D.nx ρ1 S1
def SRet (T : DT) : DS := fun D ρ S => T ρ S fun r _ S1 => match r with
  | .v p => D.rt p S1
  | .loc _ => False
def SRetN : DS := fun D _ S => D.rt .non S
def SIf (B : DB) (t u : DS) : DS := fun D ρ S => B ρ S fun b ρ1 S1 => if b = true then t D ρ1 S1 else u D ρ1 S1
def SAsg (T : DT) (g : DG) : DS := fun D ρ S => T ρ S fun r ρ1 S1 => match r with
  | .v p => g p ρ1 S1 D.nx
  | .loc _ => False
/-- a new object for a slot -/
def SOwn (i : Nat) (T : DNw) : DS := fun D ρ S => T ρ S fun o ρ1 S1 => D.nx (ρ1.set i (.own o)) S1
def SBrk : DS := fun D ρ S => D.bk ρ S
def SCnt : DS := fun D ρ S => D.ct ρ S
/-- the items one by one -/
def forL (St : Env → Store → Prop) (g : DG) (body : DS) (D : DEnds) : List P → Env → Store → Prop
  | [], ρ, S => St ρ S ∧ D.nx ρ S
  | p :: ps, ρ, S => St ρ S ∧ g p ρ S fun ρ2 S2 => body { D with nx := forL St g body D ps, ct := forL St g body D ps, bk := D.nx } ρ2 S2
def SFor (src : DSrc) (g : DG) (body : DS) : DS := fun D ρ S => src ρ S fun ps St ρ1 S1 => forL St g body D ps ρ1 S1
/-- by an invariant and a measure -/
def SWhile (B : DB) (body : DS) : DS := fun D ρ S => ∃ W : Nat → Env → Store → Prop, (∃ m, W m ρ S) ∧ ∀ m ρ S, W m ρ S → B ρ S fun b ρ1 S1 =>
  if b = true then body { D with nx := fun ρ' S' => ∃ m', m' < m ∧ W m' ρ' S', ct := fun ρ' S' => ∃ m', m' < m ∧ W m' ρ' S', bk := D.nx } ρ1 S1 else D.nx ρ1 S1
def ipD (op : R → R → Env → Store → K1 → Prop) (i : Nat) (T : DT) : DS := fun D ρ S => match ρ[i]? with
  | some (.v p) => T ρ S fun r ρ1 S1 => op (.v p) r ρ1 S1 fun z => D.nx (ρ1.set i (.v z)) S1
  | _ => False
section
variable {X : Cx} {F I0 : Hp} {pos : Pos} {e : Expr} {T : DT} {t u : DS} {st : Stmt} {rest : List Stmt} {B : DB}
theorem s_next : DSs F I0 X [] SNext := pss_nil.weak fun D σ H ⟨ρ, S, I, D0, R, q, h1, h2, h3, h4⟩ => h1 _ _ _ _ _ Le.refl R q
theorem s_pass : DSt F I0 X (.Pass pos) SNext := ps_pass.weak fun D σ H ⟨ρ, S, I, D0, R, q, h1, h2, h3, h4⟩ => h1 _ _ _ _ _ Le.refl R q
theorem s_brk : DSt F I0 X (.Break pos) SBrk := ps_break.weak fun D σ H ⟨ρ, S, I, D0, R, q, h1, h2, h3, h4⟩ => h3 _ _ _ _ _ Le.refl R q
theorem s_cnt : DSt F I0 X (.Continue pos) SCnt := ps_continue.weak fun D σ H ⟨ρ, S, I, D0, R, q, h1, h2, h3, h4⟩ => h4 _ _ _ _ _ Le.refl R q
theorem s_one (h : DSt F I0 X st t) : DSs F I0 X [st] t := pss_one h
theorem s_doc {x : Str} {j : Nat} {p2 : Pos} : DSt F I0 X (.Expr (.Constant (.str x) j pos) p2) SNext := ps_doc.weak fun D σ H ⟨ρ, S, I, D0, R, q, h1, h2, h3, h4⟩ => h1 _ _ _ _ _ Le.refl R q
/-- the ends seen from a later place -/
theorem trS.at {G : Gm} {T : DS} {D : Ends} {σ : L2.St} {H : Hp} {ρ : Env} {S : Store} {I I' : Hp} {D0 : DEnds} (l : Le I I') (R : Rel G ρ S I' σ H) (q : T D0 ρ S)
    (h1 : ∀ σ' H' ρ' S' I', Le I I' → Rel G ρ' S' I' σ' H' → D0.nx ρ' S' → D.nx σ' H') (h2 : ∀ x H' p S' I', Le I I' → StR G S' I' H' → RP G I' p x → D0.rt p S' → D.rt x H')
    (h3 : ∀ σ' H' ρ' S' I', Le I I' → Rel G ρ' S' I' σ' H' → D0.bk ρ' S' → D.bk σ' H') (h4 : ∀ σ' H' ρ' S' I', Le I I' → Rel G ρ' S' I' σ' H' → D0.ct ρ' S' → D.ct σ' H') : trS G T D σ H :=
  ⟨ρ, S, I', D0, R, q, fun σ' H' ρ' S' I2 l2 => h1 _ _ _ _ _ (l.trans l2), fun x H' p S' I2 l2 => h2 _ _ _ _ _ (l.trans l2), fun σ' H' ρ' S' I2 l2 => h3 _ _ _ _ _ (l.trans l2), fun σ' H' ρ' S' I2 l2 => h4 _ _ _ _ _ (l.trans l2)⟩
theorem s_cons (h1 : DSt F I0 X st t) (h2 : DSs F I0 X rest u) : DSs F I0 X (st :: rest) (SSeq t u) := by
  refine (pss_cons h1 h2).weak fun D σ H ⟨ρ, S, I, D0, R, q, h1, h2, h3, h4⟩ => ?_
  exact ⟨ρ, S, I, _, R, q, fun σ' H' ρ' S' I' l R' q => trS.at l R' q h1 h2 h3 h4, h2, h3, h4⟩
theorem s_expr (h : DE F I0 X e T) (hs : swapsWith e none pos.line X.env = pure false := by rfl) : DSt F I0 X (.Expr e pos) (SExpr T) := by
  refine (ps_expr h hs).weak fun D σ H ⟨ρ, S, I, D0, R, q, h1, h2, h3, h4⟩ => ?_
  exact ⟨ρ, S, I, _, R, q, fun x H' r ρ' S' I' l R' rr q => h1 _ _ _ _ _ l R' q⟩
theorem s_ret (h : DE F I0 X e T) : DSt F I0 X (.Return (some e) pos) (SRet T) := by
  refine (ps_ret h).weak fun D σ H ⟨ρ, S, I, D0, R, q, h1, h2, h3, h4⟩ => ?_
  refine ⟨ρ, S, I, _, R, q, fun x H' r ρ' S' I' l R' rr q => ?_⟩
  split at q
  · exact h2 _ _ _ _ _ l R'.sr rr q
  · exact q.elim
theorem s_retN : DSt F I0 X (.Return none pos) SRetN := ps_retN.weak fun D σ H ⟨ρ, S, I, D0, R, q, h1, h2, h3, h4⟩ => h2 _ _ _ _ _ Le.refl R.sr (RP.mkN : RP (gm F I0 X) I .non .non) q
theorem s_if {c : Expr} {a b : List Stmt} (hc : DTs F I0 X c B) (ha : DSs F I0 X a t) (hb : DSs F I0 X b u) : DSt F I0 X (.If c a b pos) (SIf B t u) := by
  refine (ps_if hc ha hb).weak fun D σ H ⟨ρ, S, I, D0, R, q, h1, h2, h3, h4⟩ => ?_
  refine ⟨ρ, S, I, _, R, q, fun c H' ρ' S' I' l R' q => ?_⟩
  cases c with
  | true => exact trS.at l R' q h1 h2 h3 h4
  | false => exact trS.at l R' q h1 h2 h3 h4
theorem s_asg {tg : Expr} {g : DG} (h : DE F I0 X e T) (hg : DGt F I0 X WA tg g) (hs : swapsWithSole [tg] e pos.line X.env = pure false := by rfl) (hw : swappedStores [tg] e X.env = pure none := by rfl)
    (ha : (assignEach [tg] X.env).map (·.2) = [assign tg X.env] := by rfl) : DSt F I0 X (.Assign [tg] e pos) (SAsg T g) := by
  refine (ps_asg h hg hs hw ha).weak fun D σ H ⟨ρ, S, I, D0, R, q, h1, h2, h3, h4⟩ => ?_
  refine ⟨ρ, S, I, _, R, q, fun x H' r ρ' S' I' l R' rr q => ?_⟩
  split at q
  · rename_i p
    exact ⟨ρ', S', I', p, _, R', rr, q, fun σ2 H2 ρ2 S2 I2 _ l2 R2 q2 => h1 _ _ _ _ _ (l.trans l2) R2 q2⟩
  · exact q.elim
theorem own_asg {T : DNw} {i : Nat} {D : Ends} {σ : L2.St} {H : Hp} (h : trS (gm F I0 X) (SOwn i T) D σ H) : tAsg (trN (gm F I0 X) T) (gName i) D σ H := by
  obtain ⟨ρ, S, I, D0, R, q, h1, h2, h3, h4⟩ := h
  refine ⟨ρ, S, I, _, R, q, fun A H' o u ρ' S' I' l hF R' ho q => ?_⟩
  exact h1 _ _ _ _ _ l (R'.heldO hF (ho.gm (G' := gm F I0 X) rfl) i) q
theorem s_own {T : DNw} {i : Nat} {x : Str} {p2 : Pos} (hN : X.N.Nodup) (hi : X.N[i]? = some x) (hx : Loc X.env.scope x) (he : DN F I0 X e T) (hs : swapsWith e (some (.Name x p2)) pos.line X.env = pure false := by rfl) (hf : X.fn x = true ∨ X.env.scope.names.lookup x = some .local := by first | exact .inl rfl | exact .inr rfl | assumption) :
    DSt F I0 X (.Assign [.Name x p2] e pos) (SOwn i T) := (ps_set hN hi hx he hs hf).weak fun D σ H h => own_asg h
theorem s_for {tg iter : Expr} {body : List Stmt} {src : DSrc} {g : DG} {t : DS} (hp : PassesOwn (model X.prog X.w) X.A X.env X.xe) (hc : X.calm = true) (hi : DI F I0 X tg iter src) (hg : DGt F I0 X WA tg g) (hb : DSs F I0 X body t)
    (hs : ∀ x, foldedSetIterable iter X.env x = pure x := by intro _; rfl) : DSt F I0 X (.For tg iter body [] pos) (SFor src g t) := by
  refine (ps_for hp hc hi hg hb hs).weak fun D σ H ⟨ρ, S, I, D0, R, q, h1, h2, h3, h4⟩ => ?_
  refine ⟨ρ, S, I, _, R, q, fun J H1 ρ1 S1 I1 ps St l1 R1 w q1 => ?_⟩
  have w := w F
  refine ⟨fun i m σ H => ∃ qs ρ S I, m = qs.length ∧ i + qs.length = ps.length ∧ ps.drop i = qs ∧ Le I1 I ∧ Rel (gm F I0 X) ρ S I σ H ∧ forL St g t D0 qs ρ S, ⟨ps.length, ps, ρ1, S1, I1, rfl, by simp, rfl, Le.refl, R1, q1⟩, ?_⟩
  rintro i m σ H ⟨qs, ρ, S, I2, rfl, hl, hd, l2, R2, q2⟩
  cases qs with
  | nil =>
    obtain ⟨hst, q2⟩ := q2
    have e : i = ps.length := by simpa using hl
    subst e
    exact .inl ⟨w.stops ρ S I2 σ H l2 R2 hst, h1 _ _ _ _ _ (l1.trans l2) R2 q2⟩
  | cons p qs =>
    obtain ⟨hst, q2⟩ := q2
    have hi' : i < ps.length := by simp at hl; omega
    have hp' : ps[i]? = some p ∧ ps.drop (i + 1) = qs := by
      have e := List.drop_eq_getElem_cons hi'
      rw [hd] at e
      injection e with e1 e2
      exact ⟨by rw [List.getElem?_eq_getElem hi', e1], e2.symm⟩
    refine .inr ⟨w.goes i ρ S I2 σ H l2 R2 hst hi', fun σ' H' => ∃ m', m' < (p :: qs).length ∧ ∃ qs' ρ S I, m' = qs'.length ∧ i + 1 + qs'.length = ps.length ∧ ps.drop (i + 1) = qs' ∧ Le I1 I ∧ Rel (gm F I0 X) ρ S I σ' H' ∧ forL St g t D0 qs' ρ S, fun σ' H' h => h, fun x H' y => ?_⟩
    obtain ⟨p', I3, hp2, l3, R3, rp⟩ := w.ylds i ρ S I2 σ H x H' l2 R2 hst hi' y
    rw [hp'.1] at hp2; cases hp2
    refine ⟨ρ, S, I3, p, _, R3, rp, q2, fun σ4 H4 ρ4 S4 I4 _ l4 R4 q4 => ?_⟩
    have l5 : Le I1 I4 := l2.trans (l3.trans l4)
    have go : ∀ σ' H' ρ' S' I', Le I4 I' → Rel (gm F I0 X) ρ' S' I' σ' H' → forL St g t D0 qs ρ' S' → ∃ m', m' < (p :: qs).length ∧ ∃ qs' ρ S I, m' = qs'.length ∧ i + 1 + qs'.length = ps.length ∧ ps.drop (i + 1) = qs' ∧ Le I1 I ∧ Rel (gm F I0 X) ρ S I σ' H' ∧ forL St g t D0 qs' ρ S :=
      fun σ' H' ρ' S' I' l R' q' => ⟨qs.length, Nat.lt_succ_self _, qs, ρ', S', I', rfl, by simp at hl; omega, hp'.2, l5.trans l, R', q'⟩
    exact ⟨ρ4, S4, I4, _, R4, q4, go, fun x H' p S' I' l => h2 _ _ _ _ _ (l1.trans (l5.trans l)), fun σ' H' ρ' S' I' l R' q' => h1 _ _ _ _ _ (l1.trans (l5.trans l)) R' q', go⟩
theorem s_while {c : Expr} {body : List Stmt} {t : DS} (hp : PassesOwn (model X.prog X.w) X.A X.env X.xe) (hc : DTs F I0 X c B) (hb : DSs F I0 X body t) : DSt F I0 X (.While c body [] pos) (SWhile B t) := by
  refine (ps_while hp hc hb).weak fun D σ H ⟨ρ, S, I, D0, R, q, h1, h2, h3, h4⟩ => ?_
  obtain ⟨W, ⟨m0, w0⟩, turn⟩ := q
  refine ⟨fun m σ H => ∃ ρ S I', Le I I' ∧ Rel (gm F I0 X) ρ S I' σ H ∧ W m ρ S, ⟨m0, ρ, S, I, Le.refl, R, w0⟩, ?_⟩
  rintro m σ H ⟨ρ, S, I1, l1, R1, w⟩
  refine ⟨ρ, S, I1, _, R1, turn m ρ S w, fun b H2 ρ2 S2 I2 l2 R2 q2 => ?_⟩
  have l3 := l1.trans l2
  cases b with
  | true =>
    refine ⟨_, fun σ' H' h => h, ?_⟩
    have go : ∀ σ' H' ρ' S' I', Le I2 I' → Rel (gm F I0 X) ρ' S' I' σ' H' → (∃ m', m' < m ∧ W m' ρ' S') → ∃ m', m' < m ∧ ∃ ρ S I', Le I I' ∧ Rel (gm F I0 X) ρ S I' σ' H' ∧ W m' ρ S :=
      fun σ' H' ρ' S' I' l R' ⟨m', hm, q'⟩ => ⟨m', hm, ρ', S', I', l3.trans l, R', q'⟩
    exact ⟨ρ2, S2, I2, _, R2, q2, go, fun x H' p S' I' l => h2 _ _ _ _ _ (l3.trans l), fun σ' H' ρ' S' I' l R' q' => h1 _ _ _ _ _ (l3.trans l) R' q', go⟩
  | false => exact h1 _ _ _ _ _ l3 R2 q2
end
end D
/-! D8: comprehensions, methods, in-place operators, unary minus; by deep values. -/
namespace D
open PySem PySem.Spec L2

/-! ### comprehensions -/
def wipeE (ρ : Env) : List Nat → Env
  | [] => ρ
  | v :: vs => (wipeE ρ vs).set v .un
theorem wipeE_length (ρ : Env) : ∀ vs : List Nat, (wipeE ρ vs).length = ρ.length
  | [] => rfl
  | v :: vs => by unfold wipeE; rw [List.length_set, wipeE_length ρ vs]
theorem wipeE_get {ρ : Env} : ∀ {vs : List Nat} {i : Nat} {s : Sl}, (wipeE ρ vs)[i]? = some s → s ≠ .un → ρ[i]? = some s ∧ i ∉ vs
  | [], _, _, h, _ => ⟨h, by simp⟩
  | v :: vs, i, s, h, hs => by
    unfold wipeE at h
    rcases set_cut h with ⟨_, q⟩ | ⟨c, h⟩
    · exact (hs q).elim
    · obtain ⟨h1, h2⟩ := wipeE_get h hs
      exact ⟨h1, by simp only [List.mem_cons, not_or]; exact ⟨fun e => c e.symm, h2⟩⟩
theorem wipe_get {σ : L2.St} : ∀ {vs : List Nat} {i : Nat}, i ∉ vs → (wipe σ vs)[i]? = σ[i]?
  | [], _, _ => rfl
  | v :: vs, i, h => by
    unfold wipe
    simp only [List.mem_cons, not_or] at h
    rw [List.getElem?_set_ne (fun e => h.1 e.symm), wipe_get h.2]
theorem wipeE_un {ρ : Env} : ∀ {vs : List Nat} {i : Nat}, i ∈ vs → i < ρ.length → (wipeE ρ vs)[i]? = some .un
  | v :: vs, i, h, hl => by
    unfold wipeE
    by_cases c : v = i
    · subst c; rw [List.getElem?_set_self (by rw [wipeE_length]; exact hl)]
    · rw [List.getElem?_set_ne c]
      exact wipeE_un ((List.mem_cons.mp h).resolve_left fun e => c e.symm) hl
theorem wipeE_off {ρ : Env} : ∀ {vs : List Nat} {i : Nat}, i ∉ vs → (wipeE ρ vs)[i]? = ρ[i]?
  | [], _, _ => rfl
  | v :: vs, i, h => by
    unfold wipeE
    simp only [List.mem_cons, not_or] at h
    rw [List.getElem?_set_ne (fun e => h.1 e.symm), wipeE_off h.2]
theorem wipeE_twice (ρ : Env) (vs : List Nat) : wipeE (wipeE ρ vs) vs = wipeE ρ vs := by
  refine List.ext_getElem? fun i => ?_
  by_cases c : i ∈ vs
  · by_cases hi : i < ρ.length
    · rw [wipeE_un c hi, wipeE_un c (by rw [wipeE_length]; exact hi)]
    · rw [List.getElem?_eq_none (by rw [wipeE_length, wipeE_length]; omega), List.getElem?_eq_none (by rw [wipeE_length]; omega)]
  · exact wipeE_off c
/-- slots forgotten on both sides -/
theorem Rel.wipe {G : Gm} {ρ : Env} {S : Store} {I : Hp} {σ σ' : L2.St} {H : Hp} (R : Rel G ρ S I σ H) {vs : List Nat} (hl : σ'.length = σ.length) (h : ∀ i, i ∉ vs → σ'[i]? = σ[i]?) : Rel G (wipeE ρ vs) S I σ' H := by
  refine ⟨R.sr, by rw [hl, wipeE_length, R.len], fun i p e => ?_, fun i o e => ?_, fun i j o u a hij e1 e2 k1 k2 => ?_⟩
  · obtain ⟨h1, h2⟩ := wipeE_get e (by intro q; cases q)
    rw [h i h2]; exact R.vs i p h1
  · obtain ⟨h1, h2⟩ := wipeE_get e (by intro q; cases q)
    rw [h i h2]; exact R.ow i o h1
  · obtain ⟨h1, h2⟩ := wipeE_get e1 (by intro q; cases q)
    obtain ⟨h3, h4⟩ := wipeE_get e2 (by intro q; cases q)
    rw [h i h2] at k1; rw [h j h4] at k2
    exact R.ap i j o u a hij h1 h3 k1 k2
def compL (St : Env → Store → Prop) (g : DG) (tt : DB) (te : DT) (vs : List Nat) (Q : List P → Env → Store → Prop) : List P → List P → Env → Store → Prop
  | [], acc, ρ, S => St ρ S ∧ Q acc ρ S
  | p :: ps, acc, ρ, S => St ρ S ∧ g p ρ S fun ρ2 S2 => tt ρ2 S2 fun b ρ3 S3 =>
      if b = true then te ρ3 S3 fun r ρ4 S4 => match r with
        | .v y => compL St g tt te vs Q ps (acc ++ [y]) (wipeE ρ4 vs) S4
        | .loc _ => False
      else compL St g tt te vs Q ps acc (wipeE ρ3 vs) S3
def BYes : DB := fun ρ S Q => Q true ρ S
def NLc (src : DSrc) (g : DG) (tt : DB) (te : DT) (vs : List Nat) : DNw := fun ρ S Q => src ρ S fun ps St ρ1 S1 => ps.length ≤ sizeLine ∧ compL St g tt te vs (fun acc => Q (.lst acc)) ps [] (wipeE ρ1 vs) S1
section
variable {X : Cx} {I0 : Hp} {pos : Pos}
abbrev DTT (F I0 : Hp) (X : Cx) (es : List Expr) (T : DB) : Prop := PTs X es (trT (gm F I0 X) T)
theorem tt_yes {F : Hp} : DTT F I0 X [] BYes := ⟨fun p s σ H Q J h => pts_nil.run p s σ H Q J (by
  obtain ⟨ρ, S, I, Q0, R, q, post⟩ := h
  exact post _ _ _ _ _ Le.refl R q)⟩
theorem tt_one {F : Hp} {c : Expr} {B : DB} (h : DTs F I0 X c B) : DTT F I0 X [c] B := pts_one h
def own (vs : List Nat) : Nat → Bool := fun i => vs.contains i
theorem wipe_self {σ : L2.St} : ∀ {vs : List Nat} {i : Nat}, i ∈ vs → i < σ.length → (wipe σ vs)[i]? = some none
  | v :: vs, i, h, hl => by
    unfold wipe
    by_cases c : v = i
    · subst c; rw [List.getElem?_set_self (by rw [wipe_length]; exact hl)]
    · rw [List.getElem?_set_ne c]
      exact wipe_self ((List.mem_cons.mp h).resolve_left fun e => c e.symm) hl
theorem wipe_ext {σ σ' : L2.St} {vs : List Nat} (h : Only (own vs) (wipe σ vs) σ') : wipe σ' vs = wipe σ vs := by
  have hl : σ'.length = σ.length := by rw [h.len, wipe_length]
  refine List.ext_getElem? fun i => ?_
  by_cases c : i ∈ vs
  · by_cases hi : i < σ.length
    · rw [wipe_self c hi, wipe_self c (by omega)]
    · rw [List.getElem?_eq_none (by rw [wipe_length]; omega), List.getElem?_eq_none (by rw [wipe_length]; omega)]
  · rw [wipe_get c, h.keep i (by simpa [own] using c)]
theorem RR.ofW {G : Gm} {I : Hp} {σ : L2.St} {y : P} {x : V} (h : RR G I σ (.v y) x) : RP G I y x := h
/-- the targets', tests', items' readings whatever is held aside -/
abbrev gAny (G : Gm) (vs : List Nat) (g : DG) : TG := fun x σ H Q => ∃ F', trG { G with F := F' } (own vs) g x σ H Q
abbrev bAny (G : Gm) (tt : DB) : TT := fun σ H Q => ∃ F', trT { G with F := F' } tt σ H Q
abbrev eAny (G : Gm) (te : DT) : TE := fun σ H Q => ∃ F', tr { G with F := F' } te σ H Q
theorem lc_tr {F : Hp} {src : DSrc} {g : DG} {tt : DB} {te : DT} {vs : List Nat} : ∀ σ H Q, trN (gm F I0 X) (NLc src g tt te vs) σ H Q → tLc (trI (gm F I0 X) src) (gAny (gm F I0 X) vs g) (bAny (gm F I0 X) tt) (eAny (gm F I0 X) te) vs σ H Q := by
  intro σ H Q ⟨ρ, S, I, Q0, R, q, post⟩
  refine ⟨ρ, S, I, _, R, q, fun J H1 ρ1 S1 I1 ps St l1 R1 w q1 => fun A hA => ?_⟩
  obtain ⟨hps, q1⟩ := q1
  obtain ⟨hF, hI, hS⟩ := R1.unused hA
  let Inv' := fun (i m : Nat) (H : Hp) (qs : List P) (acc : List P) (ρ : Env) (S : Store) (I : Hp) (vs' : List V) =>
    m = qs.length ∧ i + qs.length = ps.length ∧ ps.drop i = qs ∧ acc.length ≤ i ∧ wipeE ρ vs = ρ ∧ Le I1 I ∧ Rel ((gm F I0 X).up A (.lst vs')) ρ S I (wipe σ vs) H ∧ RPs (gm F I0 X) I acc vs' ∧ compL St g tt te vs (fun acc => Q0 (.lst acc)) qs acc ρ S
  refine ⟨fun i m H => ∃ qs acc ρ S I vs', Inv' i m H qs acc ρ S I vs', ⟨ps.length, ps, [], wipeE ρ1 vs, S1, I1, [], rfl, by simp, rfl, Nat.le_refl _, wipeE_twice _ _, Le.refl, ?_, rfl, q1⟩, ?_⟩
  · exact (R1.toF (u := .lst []) hA).wipe (wipe_length σ vs) fun i h => wipe_get h
  rintro i m H ⟨qs, acc, ρ, S, I2, vs', rfl, hl, hd, ha, hw, l2, R2, t2, q2⟩
  have w := w (upd F A (.lst vs'))
  cases qs with
  | nil =>
    obtain ⟨hst, q2⟩ := q2
    have e : i = ps.length := by simpa using hl
    subst e
    refine .inl ⟨w.stops ρ S I2 _ H l2 R2 hst, ?_⟩
    refine post A H (.lst acc) (.lst vs') ρ S I2 (l1.trans l2) hF ?_ ⟨vs', R2.held.1, RPs.gm _ t2 rfl⟩ q2
    have := R2.wipe (σ' := σ) (vs := vs) (wipe_length σ vs).symm fun i h => (wipe_get h).symm
    rwa [hw] at this
  | cons p qs =>
    obtain ⟨hst, q2⟩ := q2
    have hi' : i < ps.length := by simp at hl; omega
    have hp' : ps[i]? = some p ∧ ps.drop (i + 1) = qs := by
      have e := List.drop_eq_getElem_cons hi'
      rw [hd] at e
      injection e with e1 e2
      exact ⟨by rw [List.getElem?_eq_getElem hi', e1], e2.symm⟩
    refine .inr ⟨w.goes i ρ S I2 _ H l2 R2 hst hi', fun H' => ∃ m', m' < (p :: qs).length ∧ ∃ qs' acc ρ S I vs', Inv' (i + 1) m' H' qs' acc ρ S I vs', fun H' h => h, fun x H' y => ?_⟩
    obtain ⟨p', I3, hp2, l3, R3, rp⟩ := w.ylds i ρ S I2 _ H x H' l2 R2 hst hi' y
    rw [hp'.1] at hp2; cases hp2
    refine ⟨upd F A (.lst vs'), ρ, S, I3, p, _, R3, rp, q2, fun σ4 H4 ρ4 S4 I4 o4 l4 R4 q4 => ⟨wipe_ext o4, upd F A (.lst vs'), ρ4, S4, I4, _, R4, q4, fun b H5 ρ5 S5 I5 l5 R5 q5 => ?_⟩⟩
    have hl5 : Le I1 I5 := l2.trans (l3.trans (l4.trans l5))
    have e4 : ∀ i, i ∉ vs → (wipe σ vs)[i]? = σ4[i]? := fun i h => (o4.keep i (by simpa [own] using h)).symm
    have hl4 : (wipe σ vs).length = σ4.length := o4.len.symm
    cases b with
    | false =>
      exact ⟨qs.length, Nat.lt_succ_self _, qs, acc, wipeE ρ5 vs, S5, I5, vs', rfl, by simp at hl; omega, hp'.2, by omega, wipeE_twice _ _, hl5, R5.wipe hl4 e4, RPs.mono (l3.trans (l4.trans l5)) _ _ t2, q5⟩
    | true =>
      rw [if_pos rfl] at q5
      show (fun σ H Q => ∃ F', tr (gm F' I0 X) te σ H Q) σ4 H5 _
      refine ⟨upd F A (.lst vs'), ρ5, S5, I5, _, R5, q5, fun z H6 r ρ6 S6 I6 l6 R6 rr q6 => ?_⟩
      split at q6
      · rename_i z'
        have R6 : Rel ((gm F I0 X).up A (.lst vs')) ρ6 S6 I6 σ4 H6 := R6
        have hh := R6.held.1
        have hal := t2.length
        have hlt : acc.length < sizeLine := by omega
        refine ⟨vs', hh, by omega, qs.length, Nat.lt_succ_self _, qs, acc ++ [z'], wipeE ρ6 vs, S6, I6, vs' ++ [z], rfl, by simp at hl; omega, hp'.2, by simp; omega, wipeE_twice _ _, hl5.trans l6, (R6.reF (u' := .lst (vs' ++ [z]))).wipe hl4 e4, ?_, q6⟩
        exact (RPs.mono (l3.trans (l4.trans (l5.trans l6))) _ _ t2).append (RPs.one (RP.gm _ rr rfl))
      · exact q6.elim
theorem n_lc {F : Hp} {elt tg iter : Expr} {ifs : List Expr} {scope : Scope} {ow : List (Str × Nat)} {src : DSrc} {g : DG} {tt : DB} {te : DT} (hc : X.calm = true) (hN : X.N.Nodup) (hi : DI F I0 X tg iter src) (ok : BlkOk X.N X.env.scope scope ow)
    (hg : ∀ (F : Hp) (s : Shared) (H : Hp) (C : Addr) (cl : List (Str × Addr)) (fp : List Addr), DGt F I0 (X.blk s H scope (compEnvC scope cl C X.env) fp) (own (ow.map (·.2))) tg g)
    (ht : ∀ (F : Hp) (s : Shared) (H : Hp) (C : Addr) (cl : List (Str × Addr)) (fp : List Addr), DTT F I0 (X.blk s H scope (compEnvC scope cl C X.env) fp) ifs tt)
    (he : ∀ (F : Hp) (s : Shared) (H : Hp) (C : Addr) (cl : List (Str × Addr)) (fp : List Addr), DE F I0 (X.blk s H scope (compEnvC scope cl C X.env) fp) elt te) (hs : ∀ x, foldedSetIterable iter X.env x = pure x := by intro _; rfl) :
    DN F I0 X (.ListComp elt [⟨tg, iter, ifs, 0⟩] scope pos) (NLc src g tt te (ow.map (·.2))) := by
  exact (pe_lc (g := gAny (gm F I0 X) (ow.map (·.2)) g) (tt := bAny (gm F I0 X) tt) (te := eAny (gm F I0 X) te) hc hN hi ok
    (fun s H C cl fp => ⟨fun p s' σ H v u Q J r ⟨F', q⟩ => (hg F' s _ C cl fp).run p s' σ H v u Q J r q⟩)
    (fun s H C cl fp => ⟨fun p s' σ H Q J ⟨F', q⟩ => (ht F' s _ C cl fp).run p s' σ H Q J q⟩)
    (fun s H C cl fp => ⟨fun p s' σ H Q J ⟨F', q⟩ => (he F' s _ C cl fp).run p s' σ H Q J q⟩) hs).weak lc_tr
end

/-! ### methods -/
abbrev MOp := R → List R → Env → Store → (P → Env → Store → Prop) → Prop
def TM (ty : Env → Store → R → Prop) (d : MOp) (To : DT) (A : DA) : DT := fun ρ S Q => To ρ S fun r ρ1 S1 => ty ρ1 S1 r ∧ A ρ1 S1 fun rs ρ2 S2 => d r rs ρ2 S2 fun p ρ3 S3 => Q (.v p) ρ3 S3
/-- what is wanted behind a method -/
abbrev PstM (G : Gm) (I : Hp) (σ : L2.St) (k : P → Env → Store → Prop) (Q : VK) : Prop := ∀ (z : V) (H' : Hp) (p : P) (ρ' : Env) (S' : Store) (I' : Hp), Le I I' → Rel G ρ' S' I' σ H' → RP G I' p z → k p ρ' S' → Q z H'
structure LkM (X : Cx) (T : String) (rel : V → List V → Hp → VK → Prop) (ty : Env → Store → R → Prop) (d : MOp) : Prop where
  ty : ∀ (F I0 : Hp) (ρ : Env) (S : Store) (I : Hp) (σ : L2.St) (H : Hp) (x : V) (r : R), Rel (gm F I0 X) ρ S I σ H → RR (gm F I0 X) I σ r x → ty ρ S r → tyV X.K T x H
  op : ∀ (F I0 : Hp) (ρ : Env) (S : Store) (I : Hp) (σ : L2.St) (H : Hp) (x : V) (xs : List V) (r : R) (rs : List R) (k : P → Env → Store → Prop) (Q : VK), Rel (gm F I0 X) ρ S I σ H → RR (gm F I0 X) I σ r x → RRs (gm F I0 X) I σ rs xs → d r rs ρ S k → PstM (gm F I0 X) I σ k Q → rel x xs H Q
abbrev BaseOk (X : Cx) (o : Expr) (name : Str) : Prop := attributeBase o name X.env (eval o X.env) = eval o X.env
abbrev FewOk (X : Cx) (cpos : Pos) (es : List Expr) : Prop := ((backTo cpos (starEach es X.env)).all (fun z => !z.1) && (backToKw cpos (keywordEach [] X.env)).all (fun z => z.1.isSome) && decide (es.length + ([] : List Keyword).length + (if ([] : List Keyword).isEmpty then 0 else 1) < 30)) = true
abbrev StOk (X : Cx) (e : Expr) (es : List Expr) : Prop := starEach (e :: es) X.env = (false, eval e X.env) :: starEach es X.env
abbrev PlOk (X : Cx) (cpos : Pos) (es : List Expr) : Prop := (backTo cpos (starEach es X.env)).any (·.1) = false
section
variable {X : Cx} {F I0 : Hp} {o e : Expr} {es : List Expr} {To : DT} {A : DA} {name : Str} {apos cpos : Pos} {T id : String} {rel : V → List V → Hp → VK → Prop} {ty : Env → Store → R → Prop} {d : MOp}
theorem d_bm (pa : PlainAttrs T) (slot : Slot T name id) (hty : typeOf (.builtin id) = pure (.type "method_descriptor")) (hm : MtR X id rel) (lk : LkM X T rel ty d) (ho : DE F I0 X o To) (ha : DAs F I0 X (e :: es) A)
    (hbase : BaseOk X o name := by rfl) (hfew : FewOk X cpos (e :: es) := by rfl) (hline : (apos.endLine == cpos.line) = true := by rfl) (hs : StOk X e es := by rfl) (hplain : PlOk X cpos es := by rfl) :
    DE F I0 X (.Call (.Attribute o name apos) (e :: es) [] cpos) (TM ty d To A) := by
  refine (pe_bm pa slot hty hm ho ha hbase hfew hline hs hplain).weak fun σ H Q ⟨ρ, S, I, Q0, R, q, post⟩ => ?_
  refine ⟨ρ, S, I, _, R, q, fun x H1 r ρ1 S1 I1 l1 R1 rr q1 => ⟨lk.ty F I0 ρ1 S1 I1 σ H1 x r R1 rr q1.1, ρ1, S1, I1, _, R1, q1.2, fun xs H2 rs ρ2 S2 I2 l2 R2 rrs q2 => ?_⟩⟩
  exact lk.op F I0 ρ2 S2 I2 σ H2 x xs r rs _ Q R2 (rr.mono l2) rrs q2 fun z H' p ρ' S' I' l R' rp k => post z H' (.v p) ρ' S' I' (l1.trans (l2.trans l)) R' rp k
theorem d_bm0 (pa : PlainAttrs T) (slot : Slot T name id) (hty : typeOf (.builtin id) = pure (.type "method_descriptor")) (hm : MtR X id rel) (lk : LkM X T rel ty d) (ho : DE F I0 X o To)
    (hbase : BaseOk X o name := by rfl) (hline : (apos.endLine == cpos.line) = true := by rfl) :
    DE F I0 X (.Call (.Attribute o name apos) [] [] cpos) (TM ty d To ANil) := by
  refine (pe_bm0 pa slot hty hm ho hbase hline).weak fun σ H Q ⟨ρ, S, I, Q0, R, q, post⟩ => ?_
  refine ⟨ρ, S, I, _, R, q, fun x H1 r ρ1 S1 I1 l1 R1 rr q1 => ⟨lk.ty F I0 ρ1 S1 I1 σ H1 x r R1 rr q1.1, ?_⟩⟩
  exact lk.op F I0 ρ1 S1 I1 σ H1 x [] r [] _ Q R1 rr rfl q1.2 fun z H' p ρ' S' I' l R' rp k => post z H' (.v p) ρ' S' I' (l1.trans l) R' rp k
end
/-- the list that a method writes: of the store, of a slot -/
def wrL (r : R) (ρ : Env) (S : Store) (f : List P → (List P → Prop) → Prop) (k : Env → Store → Prop) : Prop := match r with
  | .v (.ref a) => match S a with
    | some (.lst xs) => f xs fun ys => k ρ (ups S a (.lst ys))
    | _ => False
  | .loc i => match ρ[i]? with
    | some (.own (.lst xs)) => f xs fun ys => k (ρ.set i (.own (.lst ys))) S
    | _ => False
  | _ => False
theorem wrL_ok {G : Gm} {ρ : Env} {S : Store} {I : Hp} {σ : L2.St} {H : Hp} (R : Rel G ρ S I σ H) {r : D.R} {x : V} {f : List P → (List P → Prop) → Prop} {k : Env → Store → Prop} (rr : RR G I σ r x) (q : wrL r ρ S f k) :
    ∃ a xs vs, x = .ref a ∧ H a = some (.lst vs) ∧ RPs G I xs vs ∧ ∃ g, f xs g ∧ ∀ ys, g ys → ∀ ws, RPs G I ys ws → ∃ ρ' S', k ρ' S' ∧ Rel G ρ' S' I σ (upd H a (.lst ws)) := by
  unfold wrL at q
  split at q
  · rename_i a
    split at q
    · rename_i xs e
      cases rr
      obtain ⟨⟨vs, h1, t⟩, _⟩ := R.sr.st a _ e
      exact ⟨a, xs, vs, rfl, h1, t, _, q, fun ys hy ws tw => ⟨_, _, hy, R.setSt e (o' := .lst ys) ⟨_, upd_same, tw⟩⟩⟩
    · exact q.elim
  · rename_i i
    split at q
    · rename_i xs e
      obtain ⟨a, h0, ⟨vs, h1, t⟩, _⟩ := R.ow i _ e
      have : some (some x) = some (some (V.ref a)) := (show σ[i]? = some (some x) from rr).symm.trans h0
      cases this
      exact ⟨a, xs, vs, rfl, h1, t, _, q, fun ys hy ws tw => ⟨_, _, hy, R.setOwn e h0 (o' := .lst ys) ⟨_, upd_same, tw⟩⟩⟩
    · exact q.elim
  · exact q.elim
abbrev tyL : Env → Store → R → Prop := fun ρ S r => (asL0 ρ S r).isSome = true
def appD : MOp := fun r rs ρ S k => match rs with
  | [.v p] => wrL r ρ S (fun xs g => xs.length < sizeLine ∧ g (xs ++ [p])) fun ρ S => k .non ρ S
  | _ => False
section
variable {X : Cx} {F I0 : Hp}
theorem ty_list {F I0 : Hp} {ρ : Env} {S : Store} {I : Hp} {σ : L2.St} {H : Hp} {x : V} {r : D.R} (R : Rel (gm F I0 X) ρ S I σ H) (rr : RR (gm F I0 X) I σ r x) (h : tyL ρ S r) : tyV X.K "list" x H := by
  obtain ⟨xs, e⟩ := Option.isSome_iff_exists.mp h
  obtain ⟨a, vs, rfl, h1, _⟩ := R.asL0 rr e
  exact .inl ⟨rfl, vs, SqL.of h1⟩
theorem m_append : LkM X "list" rAppend tyL appD where
  ty := fun F I0 ρ S I σ H x r R rr h => ty_list R rr h
  op := fun F I0 ρ S I σ H x xs r rs k Q R rr rrs q post => by
    unfold appD at q
    split at q
    · rename_i p
      obtain ⟨y, _, rfl, h1, rfl⟩ := rrs
      obtain ⟨a, xs, vs, rfl, h2, t, g, ⟨q1, q2⟩, q3⟩ := wrL_ok R rr q
      obtain ⟨ρ', S', q4, R'⟩ := q3 _ q2 (vs ++ [y]) (t.append (RPs.one h1))
      exact ⟨a, vs, y, rfl, rfl, h2, by rw [← t.length]; exact q1, post _ _ _ _ _ _ Le.refl R' .mkN q4⟩
    · exact q.elim
theorem d_append {o e : Expr} {To : DT} {A : DA} {apos cpos : Pos} (ho : DE F I0 X o To) (ha : DAs F I0 X [e] A)
    (hbase : BaseOk X o "append" := by rfl) (hfew : FewOk X cpos [e] := by rfl) (hline : (apos.endLine == cpos.line) = true := by rfl) (hs : StOk X e [] := by rfl) (hplain : PlOk X cpos [] := by rfl) :
    DE F I0 X (.Call (.Attribute o "append" apos) [e] [] cpos) (TM tyL appD To A) :=
  d_bm PySem.F.plainAttrs_list PySem.F.slot_list_append PySem.F.type_list_append mt_append m_append ho ha hbase hfew hline hs hplain

/-! ### name op= e, -e -/
def augD (op : R → R → Env → Store → K1 → Prop) (i : Nat) (T : DT) : DS := fun D ρ S => match ρ[i]? with
  | some (.v p) => T ρ S fun r ρ1 S1 => op (.v p) r ρ1 S1 fun z => D.nx (ρ1.set i (.v z)) S1
  | _ => False
theorem ip_of {op : Operator} {t : TIp} {d : R → R → Env → Store → K1 → Prop} {i : Nat} {x : Str} {e : Expr} {T : DT} {pos pos' : Pos} (hN : X.N.Nodup) (hi : X.N[i]? = some x) (hx : Loc X.env.scope x) (he : DE F I0 X e T) (ho : PIp X op t) (lk : Lk2 X t d)
    (hf : X.fn x = true ∨ X.env.scope.names.lookup x = some .local := by first | exact .inl rfl | exact .inr rfl | assumption) : DSt F I0 X (.AugAssign (.Name x pos') op e pos) (augD d i T) := by
  refine (ps_aug hN hi hx he ho hf).weak fun D σ H ⟨ρ, S, I, D0, R, q, h1, h2, h3, h4⟩ => ?_
  unfold augD at q
  split at q
  · rename_i p e1
    obtain ⟨v, hv, rp⟩ := R.vs i p e1
    refine ⟨v, hv, ρ, S, I, _, R, q, fun y H1 r ρ1 S1 I1 l1 R1 rr q1 => ?_⟩
    exact lk F I0 ρ1 S1 I1 σ H1 v y (.v p) r _ _ R1 (RP.mono l1 _ _ rp) rr q1 fun z H' z' I' l R' rz k => h1 _ _ _ _ _ (l1.trans l) (R'.put rz) k
  · exact q.elim
theorem lk_ip {f : Int → Int → Int} : Lk2 X (ipI f) (ii (fun _ _ => True) fun i j => .int (f i j)) := by
  intro F I0 ρ S I σ H x y a b k Q R ra rb q post
  unfold ii at q
  split at q
  · cases ra; cases rb
    exact ⟨_, _, rfl, rfl, post _ _ _ _ Le.refl R .mkI q.2⟩
  · exact q.elim
theorem s_iadd {i : Nat} {x : Str} {e : Expr} {T : DT} {pos pos' : Pos} (hN : X.N.Nodup) (hi : X.N[i]? = some x) (hx : Loc X.env.scope x) (he : DE F I0 X e T)
    (hf : X.fn x = true ∨ X.env.scope.names.lookup x = some .local := by first | exact .inl rfl | exact .inr rfl | assumption) : DSt F I0 X (.AugAssign (.Name x pos') .Add e pos) (augD (ii (fun _ _ => True) fun i j => .int (i + j)) i T) := ip_of hN hi hx he ip_add lk_ip hf
theorem s_isub {i : Nat} {x : Str} {e : Expr} {T : DT} {pos pos' : Pos} (hN : X.N.Nodup) (hi : X.N[i]? = some x) (hx : Loc X.env.scope x) (he : DE F I0 X e T)
    (hf : X.fn x = true ∨ X.env.scope.names.lookup x = some .local := by first | exact .inl rfl | exact .inr rfl | assumption) : DSt F I0 X (.AugAssign (.Name x pos') .Sub e pos) (augD (ii (fun _ _ => True) fun i j => .int (i - j)) i T) := ip_of hN hi hx he ip_sub lk_ip hf
def negD : R → Env → Store → K1 → Prop := fun r _ _ k => match r with
  | .v (.int i) => k (.int (-i))
  | _ => False
theorem d_neg {a : Expr} {Ta : DT} {pos : Pos} (ha : DE F I0 X a Ta) : DE F I0 X (.UnaryOp .USub a pos) (T1 negD Ta) := by
  refine (pe_un un_neg ha).weak fun σ H Q ⟨ρ, S, I, Q0, R, q, post⟩ => ⟨ρ, S, I, _, R, q, fun x H' r ρ' S' I' l R' rr q => ?_⟩
  unfold negD at q
  split at q
  · rename_i i
    cases rr
    exact ⟨i, rfl, post _ _ (.v (.int (-i))) _ _ _ l R' (RP.mkI : RP (gm F I0 X) I' (.int (-i)) (.int (-i))) q⟩
  · exact q.elim

/-! ### xs[::-1] -/
def revD : R → Env → Store → K1 → Prop := fun r ρ S k => match r with
  | .v (.tup xs) => k (.tup xs.reverse)
  | r => match asL ρ S r with
    | some xs => k (.lst xs.reverse)
    | none => False
end
section
variable {Pg : Program} {w : World} {A : Around} {E : Value → Shared → Prop} {s : Shared}
theorem slice_back {sl : Addr} {vl vu vs : Value} {n : Nat} {Q : Int × Int × Nat → Shared → Prop} (hs : s.heap.IsSliceOf sl vl vu vs) (pl : IsPart vl none) (pu : IsPart vu none) (ps : IsPart vs (some (-1)))
    (h : Q ((n : Int) - 1, -1, n) s) : wpAny (model Pg w) A (Builtin.Slice.sliceApplied (.ref sl) (pure (n : Int))) Q E s := by
  obtain ⟨zo, hz1, hz2, hz3⟩ := id hs
  unfold Builtin.Slice.sliceApplied Builtin.Slice.sliceFields; refine wpAny_bind (wpAny_bind (wpAny_field hz1 hz3 (x := vl) rfl (wpAny_bind (wpAny_field hz1 hz3 (x := vu) rfl (wpAny_bind (wpAny_field hz1 hz3 (x := vs) rfl (wpAny_pure ?_)))))))
  refine wpAny_bind (HT.slicePart_ ps ?_)
  show wpAny _ _ (if ((-1 : Int) == 0) = true then _ else _) _ _ s
  rw [if_neg (by decide)]
  refine wpAny_bind (HT.slicePart_ pl (wpAny_bind (HT.slicePart_ pu (wpAny_bind (wpAny_pure ?_)))))
  show wpAny _ _ (pure ((n : Int) - 1, (-1 : Int), Builtin.Slice.slicePlaces ((n : Int) - 1) (-1) (-1))) _ _ s
  have e : Builtin.Slice.slicePlaces ((n : Int) - 1) (-1) (-1) = n := by
    unfold Builtin.Slice.slicePlaces; rw [if_neg (by decide)]
    split
    · rw [show (n : Int) - 1 - -1 - 1 = n - 1 by omega, show -(-1 : Int) = 1 by rfl, Int.ediv_one]; omega
    · omega
  rw [e]
  exact wpAny_pure h
theorem fm_congr {α β : Type} {f g : α → Option β} : ∀ {l : List α}, (∀ x ∈ l, f x = g x) → l.filterMap f = l.filterMap g
  | [], _ => rfl
  | a :: l, h => by rw [List.filterMap_cons, List.filterMap_cons, h a (List.mem_cons_self ..), fm_congr fun x hx => h x (List.mem_cons_of_mem _ hx)]
theorem fm_some {α β : Type} {f : α → β} : ∀ {l : List α}, (l.filterMap fun x => some (f x)) = l.map f
  | [] => rfl
  | a :: l => by rw [List.filterMap_cons, fm_some]; rfl
theorem pick_back (xs : Array Value) : ((List.range xs.size).filterMap fun (m : Nat) => xs[((xs.size : Int) - 1 + (m : Int) * -1).toNat]?).toArray = xs.toList.reverse.toArray := by
  congr 1
  have key : ∀ l : List Value, ((List.range l.length).filterMap fun (m : Nat) => l[((l.length : Int) - 1 + (m : Int) * -1).toNat]?) = l.reverse := by
    intro l
    have e : ∀ m ∈ List.range l.length, l[((l.length : Int) - 1 + (m : Int) * -1).toNat]? = some (l.reverse[m]?.getD .none) := by
      intro m hm
      have hm := List.mem_range.mp hm
      rw [List.getElem?_reverse hm, show ((l.length : Int) - 1 + (m : Int) * -1).toNat = l.length - 1 - m by omega]
      have : l.length - 1 - m < l.length := by omega
      rw [List.getElem?_eq_getElem this]; rfl
    rw [fm_congr e, fm_some]
    refine List.ext_getElem? fun i => ?_
    rw [List.getElem?_map]
    by_cases hi : i < l.length
    · rw [List.getElem?_range hi]
      have : i < l.reverse.length := by rw [List.length_reverse]; exact hi
      rw [Option.map_some, List.getElem?_eq_getElem this]; rfl
    · rw [List.getElem?_eq_none (by simpa using hi), List.getElem?_eq_none (by simpa using hi)]; rfl
  have := key xs.toList
  simpa using this
theorem getItem_tuple_back {t sl : Addr} {items : Array Value} {vl vu vs : Value} {Q : Value → Shared → Prop} (ht : PyProof.Rows.IsTup s.heap t items) (hs : s.heap.IsSliceOf sl vl vu vs) (pl : IsPart vl none) (pu : IsPart vu none) (ps : IsPart vs (some (-1)))
    (h : Q (.ref s.heap.objs.size) { s with heap := s.heap.push { cls := .type "tuple", data := .seq items.toList.reverse.toArray } }) (hsz : items.size ≤ sizeLine) : wpAny (model Pg w) A (getItem (.ref t) (.ref sl)) Q E s := by
  have hok : sizeOk (.seq items.toList.reverse.toArray) := by
    show items.toList.reverse.toArray.size ≤ sizeLine
    simpa using hsz
  obtain ⟨zo, hz1, hz2, hz3⟩ := id hs
  have tySl : s.TypeIs (.ref sl) "slice" := ⟨zo, hz1, hz2⟩
  unfold getItem; try with_reducible refine wpAny_holding ?_
  refine wpAny_bind (wpAny_sequenceKey (s := s) ht.typeIs (by decide) ?_)
  refine wpAny_bind (wpAny_callSpecial?_slot (name := Str.ofString "__getitem__") ht.typeIs PyProof.Rows.slot_tuple_getitem (wpAny_call_entry PyProof.Rows.slot_tuple_getitem ht.typeIs PyProof.Rows.entry_tuple_getitem ?_ (PyProof.Rows.args_tuple_getitem _ _)))
  show wpAny _ _ (Builtin.Tuple.tupleItemsOf (.ref t) >>= _) _ _ s; refine wpAny_bind (PyProof.Rows.tupleItemsOf_ ht ?_)
  refine wpAny_bind (wpAny_typeOf tySl ?_)
  rw [if_pos (by decide)]
  refine wpAny_bind (slice_back hs pl pu ps ?_)
  have hno : ¬ ((((items.size : Int) - 1 == 0 && (-1 : Int) == 1 && items.size == items.size)) = true) := by
    rw [show ((-1 : Int) == 1) = false by decide, Bool.and_false, Bool.false_and]; exact Bool.false_ne_true
  show wpAny _ _ (if (((items.size : Int) - 1 == 0 && (-1 : Int) == 1 && items.size == items.size)) = true then _ else _) _ _ s
  rw [if_neg hno, pick_back]
  first
    | exact wpAny_bind (m := Builtin.Tuple.tupleExact _) (wpAny_newObj_type (wpAny_pure ⟨_, rfl, wpAny_pure h⟩) hok)
    | exact wpAny_bind (m := Builtin.Tuple.tupleExact _) (wpAny_newObj_type (wpAny_bind (wpAny_pure (wpAny_pure ⟨_, rfl, wpAny_pure h⟩))) hok)
    | exact wpAny_bind (wpAny_bind (m := Builtin.Tuple.tupleExact _) (wpAny_newObj_type (wpAny_pure (wpAny_pure ⟨_, rfl, wpAny_pure h⟩)) hok))
    | exact wpAny_bind (wpAny_bind (m := Builtin.Tuple.tupleExact _) (wpAny_newObj_type (wpAny_pure ⟨_, rfl, wpAny_pure h⟩) hok))
end
section
variable {X : Cx} {F I0 : Hp}
theorem d_rev {e : Expr} {T : DT} {k : Nat} {p1 p2 p3 pos : Pos} (he : DE F I0 X e T) : DE F I0 X (.Subscript e (.Slice none none (some (.UnaryOp .USub (.Constant (.int 1) k p1) p2)) p3) pos) (T1 revD T) := by
  refine ⟨fun pins s σ H Q J h => ?_⟩
  obtain ⟨ρ, S, I, Q0, R, h, post⟩ := h
  refine PyProof.Rows.Subscript_ (thn (he.run pins s σ H (fun x H1 => ∃ r ρ1 S1 I1, Le I I1 ∧ Rel (gm F I0 X) ρ1 S1 I1 σ H1 ∧ RR (gm F I0 X) I1 σ r x ∧ revD r ρ1 S1 fun p => Q0 (.v p) ρ1 S1) J ⟨ρ, S, I, _, R, h, fun x H' r ρ' S' I' l R' rr q => ⟨r, ρ', S', I', l, R', rr, q⟩⟩) fun v s1 ⟨x, H1, J1, rx, r, ρ1, S1, I1, l, R1, rr, q⟩ => ?_)
  have back1 : PO X (some (.UnaryOp .USub (.Constant (.int 1) k p1) p2)) (tPart (tUn (rU fun i => .int (-i)) (tC (.int 1)))) := po_some (pe_un un_neg pe_int)
  refine wpAny_Slice (thn (po_none.run pins s1 σ H1 (fun o H2 => o = none ∧ H2 = H1) J1 ⟨rfl, rfl⟩) fun vl s2 ⟨o1, H2, J2, pl, e1, e2⟩ => ?_)
  subst e1 e2
  refine thn (po_none.run pins s2 σ H2 (fun o H3 => o = none ∧ H3 = H2) J2 ⟨rfl, rfl⟩) fun vu s3 ⟨o2, H3, J3, pu, e1, e2⟩ => ?_
  subst e1 e2
  refine thn (back1.run pins s3 σ H3 (fun o H4 => o = some (-1) ∧ H4 = H3) J3 ⟨1, rfl, -1, rfl, rfl, rfl⟩) fun vs s4 ⟨o3, H4, J4, ps, e1, e2⟩ => ?_
  subst e1 e2
  have J5 : L2.Inv X pins σ H4 { s4 with heap := s4.heap.push { cls := .type "slice", data := .fields #[vl, vu, vs] } } := J4.kept (t' := s4.toks) fun b ob q => Heap.get?_push_of_some _ q
  unfold revD at q
  split at q
  · rename_i xs
    obtain ⟨a, ws, rfl, h1, t1⟩ := rr
    cases rx
    obtain ⟨its, rv, ht, hz⟩ := J5.tuple (R1.sr.imm.sqt h1.sqt)
    have hlen := rv.length
    show wpAny (model X.prog X.w) X.A (PyProof.Rows.subscriptTail e (.Slice none none (some (.UnaryOp .USub (.Constant (.int 1) k p1) p2)) p3) (.ref a) (.ref s4.heap.objs.size)) _ X.xe _
    refine PyProof.Rows.tail_any (ops := [.ref a, .ref s4.heap.objs.size]) ht.typeIs (PyProof.Rows.slot_tuple_getitem.lookup) ?_ (by with_unfolding_all rfl)
    refine getItem_tuple_back ht (Heap.IsSliceOf.new _ vl vu vs) pl pu ps ?_ (by rw [List.size_toArray]; omega)
    obtain ⟨l2, R2⟩ := R1.frz (o := .frz { cls := .type "tuple", data := .seq its.reverse.toArray } (.tup ws.reverse)) J5.fresh
    exact ⟨.ref _, _, laidN (t' := s4.toks) J5 rv.reverse (by rw [List.length_reverse]; exact hz), rfl, post _ _ (.v (.tup xs.reverse)) _ _ _ (l.trans l2) R2 (RP.mkT (G := gm F I0 X) rfl upd_same (RPs.mono l2 _ _ t1.reverse)) q⟩
  · split at q
    · rename_i xs e1
      obtain ⟨a, ws, rfl, h1, t1⟩ := R1.asL rr e1
      cases rx
      obtain ⟨its, rv, ht, hz⟩ := J5.list h1
      have hlen := rv.length
      show wpAny (model X.prog X.w) X.A (PyProof.Rows.subscriptTail e (.Slice none none (some (.UnaryOp .USub (.Constant (.int 1) k p1) p2)) p3) (.ref a) (.ref s4.heap.objs.size)) _ X.xe _
      refine PyProof.Rows.tail_any (ops := [.ref a, .ref s4.heap.objs.size]) ht.isList.typeIs (PySem.slot_list_getitem.lookup) ?_ (by with_unfolding_all rfl)
      refine wpAny_getItem_list_slice ht.isList (Heap.IsSliceOf.new _ vl vu vs) pl pu ps (by decide) ?_ (by rw [List.size_toArray]; omega); rw [PySem.W.krv_pick]
      obtain ⟨l2, R2⟩ := R1.frz (o := .lst ws.reverse) J5.fresh
      refine ⟨.ref _, _, J5.laid (t' := s4.toks) (o := .lst ws.reverse) (fun b ob q => Heap.get?_push_of_some _ q) (Nat.le_refl _) ?_, rfl, post _ _ (.v (.lst xs.reverse)) _ _ _ (l.trans l2) R2 (RP.mkL (G := gm F I0 X) upd_same (RPs.mono l2 _ _ t1.reverse)) q⟩
      exact ⟨by rw [List.length_reverse]; exact hz, _, 0, rv.reverse, Heap.get?_push_size _ rfl⟩
    · exact q.elim
end
end D
/-! D9: promises of defs by deep values; calls; the law's entry. As HandS's FnOk, with the guards known to be none (repr asks that). -/
namespace D
open PySem PySem.Spec L2

/-! ### promises of defs, no repr under way -/
structure Fd (P : Program) (w : World) (K : PySem.W.Frag) (mg : Str → Option Value) (base : Heap) (CX : CXT) (k : Nat) (f : Addr) (fd : FuncData) (ps : List Str) (sp : Sp) : Prop where
  len : ∀ xs H Q E, sp xs H Q E → xs.length = ps.length
  run : ∀ (A : Around) (outer : List PySem.Env) (s : Shared) (H : Hp) (args : Args) (us : List Value) (xs : List V) (Q : VK) (E : XK), A.guards = some [] → Room k A → Env0 P w K mg base A outer s H → BindsTo s fd args (ps.zip us) → Vals xs us →
    sp xs H Q E → codeAny (model P w) A (.call (.ref f) args) (CR CX outer P w H s Q E) s
section
variable {P : Program} {w : World} {K : PySem.W.Frag} {mg : Str → Option Value} {base : Heap} {CX : CXT}
theorem Fd.mono {j k : Nat} {f : Addr} {fd : FuncData} {ps : List Str} {sp : Sp} (F : Fd P w K mg base CX j f fd ps sp) (h : j ≤ k) : Fd P w K mg base CX k f fd ps sp :=
  ⟨F.len, fun A outer s H args us xs Q E g r => F.run A outer s H args us xs Q E g (r.mono h)⟩
/-- a def of the text as it stands behind the top, dvs its defaults -/
abbrev Made (K : PySem.W.Frag) (f : Addr) (fd : FuncData) (name qual : Str) (st : Stmt) (dvs : List V) : Prop := FunD K name qual (defArgs st) (defBody st) (defScope st) dvs [] f fd
/-- a def of the text keeps its promise where its body does -/
theorem fd_of {k : Nat} {f : Addr} {fd : FuncData} {name qual : Str} {st : Stmt} {dvs : List V} {N ps : List Str} {sp : Sp} (M : Made K f fd name qual st dvs) (S : FnScope N ps (defScope st)) (len : ∀ xs H Q E, sp xs H Q E → xs.length = ps.length)
    (hbody : ∀ (cdv : Value) (A : Around) (outer : List PySem.Env) (s : Shared) (H : Hp) (xs : List V) (Q : VK) (E : XK), A.guards = some [] → Room k (A.deeper (PyProof.Rows.envOfC qual (defScope st) s.heap.objs.size f cdv)) → sp xs H Q E →
      ∃ t, PSs (cxOf CX P w K mg base N qual (defScope st) f cdv A outer s H E) (defBody st) t ∧ t { nx := fun _ H' => Q .non H', rt := Q } (L2.start N xs) H) :
    Fd P w K mg base CX (k + 1) f fd ps sp := by
  obtain ⟨oc, od, dV, kV, doc, pm, an, cdv, ct, osl, rfl, lk, hcd, _, _⟩ := M.ex
  refine ⟨len, fun A outer s H args us xs Q E g hr e0 hb rv hsp => ?_⟩
  have kin := e0.mod.kin.keeps fun b o e => (e0.bs b o e).1
  have hkind : ∀ y ∈ ps.zip us, (defScope st).names.lookup y.1 = some .local ∨ ((defScope st).names.lookup y.1 = some .cell ∧ ((cellsFrom (s.heap.objs.size + 1) (defScope st).names []).lookup y.1).isSome = true) :=
    fun y hy => (S.par y.1 (List.of_mem_zip hy).1).imp id fun q => ⟨q, PySem.W.cellsFrom_some _ _ _ (.inl q)⟩
  refine codeAny_call_function hr.depth (kin _ _ lk) rfl S.co S.gen rfl (PySem.W.codeRec_of kin hcd) (hb _ _ _ _ (wpAny_newFunctionEnv_cells S.kind hkind fun env he s1 x => ?_))
  subst he
  refine ⟨(e0.mod.nolimit.keeps fun b o e => (e0.bs b o e).1).keeps x.toInCall.keep, codeAny_func ?_⟩
  obtain ⟨t, ht, hq⟩ := hbody cdv A outer s H xs Q E g (hr.deeper _) hsp
  refine wpAny_mono (ht.run [] s1 (L2.start N xs) H _ (inv_start S hr.hd e0 (len _ _ _ _ hsp) rv x) hq) (fun fl s' hs => ?_) fun e s' hs => hs
  have fin : ∀ {σ' : L2.St} {H' : Hp} {v : V} {u : Value}, L2.Inv (cxOf CX P w K mg base N qual (defScope st) f cdv A outer s H E) [] σ' H' s' → RelV v u → Q v H' → CE outer P w H s Q u s' :=
    fun J rv q => ⟨_, _, J.os, J.bare, J.base, J.hok, rv, q⟩
  cases fl with
  | ret u => obtain ⟨v, σ', H', J, rv, q⟩ := hs; exact fin J rv q
  | next => obtain ⟨σ', H', J, q⟩ := hs; exact fin (v := .non) (u := .none) J rfl q
  | brk => obtain ⟨_, _, _, q⟩ := hs; exact q.elim
  | cont => obtain ⟨_, _, _, q⟩ := hs; exact q.elim
end
/-! ### deep promises -/
/-- what is wanted of an exception: its class's name, its fields; .. at the slots of a frame -/
abbrev DX := Str → List (Str × P) → Store → Prop
abbrev DXr := Str → List (Str × P) → Env → Store → Prop
abbrev DSp := List P → Store → (P → Store → Prop) → DX → Prop
/-- an exception as it lies: its dict's fields -/
def XR (G : Gm) (I : Hp) (d : Option Addr) (H : Hp) (fs : List (Str × P)) : Prop := (d = none ∧ fs = []) ∨ ∃ a gs, d = some a ∧ H a = some (.xd gs) ∧ RFs G I fs gs
def trW (G : Gm) (W : DXr) : WX := fun cls d σ H => ∃ n fs ρ S I, cls = .ref (cA G.K n) ∧ Rel G ρ S I σ H ∧ XR G I d H fs ∧ W n fs ρ S
/-- a deep promise as a reading of HandS's -/
def lift (K : PySem.W.Frag) (w : World) (d : DSp) : Sp := fun xs H Q E => ∃ (F : Hp) (S : Store) (I : Hp) (as : List P) (Q0 : P → Store → Prop) (X0 : DX), StR ⟨K, w, F, I⟩ S I H ∧ RPs ⟨K, w, F, I⟩ I as xs ∧ d as S Q0 X0 ∧
  (∀ x H' p S' I', StR ⟨K, w, F, I⟩ S' I' H' → RP ⟨K, w, F, I⟩ I' p x → Q0 p S' → Q x H') ∧
  (∀ n a H' fs S' I', StR ⟨K, w, F, I⟩ S' I' H' → XR ⟨K, w, F, I⟩ I' a H' fs → X0 n fs S' → E (.ref (cA K n)) a H')
theorem StR.re {G G' : Gm} {S : Store} {I H : Hp} (h : StR G S I H) (e1 : G.K = G'.K) (e2 : G.F = G'.F) (l : Le G'.I0 I) : StR G' S I H :=
  ⟨l, h.imm, fun a u e => h.fr a u (by rw [e2]; exact e), fun a u e => h.fi a u (by rw [e2]; exact e), fun a o e => ⟨((h.st a o e).1).gm (G' := G') e1, (h.st a o e).2⟩⟩
theorem XR.gm {G G' : Gm} {I H : Hp} {d : Option Addr} {fs : List (Str × P)} (h : XR G I d H fs) (e : G.K = G'.K) : XR G' I d H fs := h.imp id fun ⟨a, gs, h1, h2, h3⟩ => ⟨a, gs, h1, h2, RFs.cg e _ _ h3⟩
def startE (N : List Str) (as : List P) : Env := as.map Sl.v ++ List.replicate (N.length - as.length) .un
theorem start_rel {G : Gm} {S : Store} {I H : Hp} {N : List Str} {as : List P} {xs : List V} (h : StR G S I H) (r : RPs G I as xs) : Rel G (startE N as) S I (L2.start N xs) H := by
  have hl := r.length
  have noOwn : ∀ (i : Nat) (o : SO), (startE N as)[i]? ≠ some (.own o) := fun i o e => by
    unfold startE at e
    by_cases hi : i < as.length
    · rw [List.getElem?_append_left (by simpa using hi), List.getElem?_map, List.getElem?_eq_getElem hi] at e; cases e
    · rw [List.getElem?_append_right (by simpa using hi), List.getElem?_replicate] at e
      split at e <;> cases e
  refine ⟨h, ?_, fun i p e => ?_, fun i o e => (noOwn i o e).elim, fun i j o u a _ e => (noOwn i o e).elim⟩
  · unfold L2.start startE; simp [hl]
  · unfold startE at e
    by_cases hi : i < as.length
    · rw [List.getElem?_append_left (by simpa using hi), List.getElem?_map, List.getElem?_eq_getElem hi] at e
      cases e
      obtain ⟨x, hx, rp⟩ := r.get (List.getElem?_eq_getElem hi)
      refine ⟨x, ?_, rp⟩
      unfold L2.start
      rw [List.getElem?_append_left (by rw [List.length_map]; omega), List.getElem?_map, hx]; rfl
    · rw [List.getElem?_append_right (by simpa using hi), List.getElem?_replicate] at e
      split at e <;> cases e
/-- the callee's frame: the slots' own objects lie in it -/
theorem Rel.call {G : Gm} {ρ : Env} {S : Store} {I : Hp} {σ : L2.St} {H : Hp} (R : Rel G ρ S I σ H) : ∃ F', StR { G with F := F' } S I H ∧ ∀ S' I' H', Le I I' → StR { G with F := F' } S' I' H' → Rel G ρ S' I' σ H' := by
  classical
  let ow : Addr → Prop := fun a => ∃ (i : Nat) (o : SO), ρ[i]? = some (Sl.own o) ∧ σ[i]? = some (some (V.ref a))
  let F' : Hp := fun a => if ow a then H a else G.F a
  have hF1 : ∀ {a}, ow a → F' a = H a := fun h => if_pos h
  have hF2 : ∀ {a}, ¬ ow a → F' a = G.F a := fun h => if_neg h
  have own : ∀ {a}, ow a → ∃ o, OkO G I H a o ∧ I a = none ∧ S a = none ∧ G.F a = none := by
    rintro a ⟨i, o, e, h⟩
    obtain ⟨b, h1, h2, h3⟩ := R.ow i o e
    rw [h] at h1; cases h1
    exact ⟨o, h2, h3⟩
  refine ⟨F', ⟨R.sr.i0, R.sr.imm, fun a u e => ?_, fun a u e => ?_, fun a o e => ?_⟩, fun S' I' H' l h => ⟨⟨h.i0, h.imm, fun a u e => ?_, fun a u e => ?_, fun a o e => ?_⟩, R.len, fun i p e => ?_, fun i o e => ?_, R.ap⟩⟩
  · by_cases c : ow a
    · rw [← hF1 c]; exact e
    · exact R.sr.fr a u ((hF2 c).symm.trans e)
  · by_cases c : ow a
    · obtain ⟨o, _, k1, k2, _⟩ := own c; exact ⟨k1, k2⟩
    · exact R.sr.fi a u ((hF2 c).symm.trans e)
  · obtain ⟨k1, k2⟩ := R.sr.st a o e
    exact ⟨k1.gm rfl, k2⟩
  · have c : ¬ ow a := fun c => by obtain ⟨_, _, _, _, k⟩ := own c; rw [k] at e; cases e
    exact h.fr a u ((hF2 c).trans e)
  · have c : ¬ ow a := fun c => by obtain ⟨_, _, _, _, k⟩ := own c; rw [k] at e; cases e
    exact h.fi a u ((hF2 c).trans e)
  · obtain ⟨k1, k2⟩ := h.st a o e
    exact ⟨k1.gm (G' := G) rfl, k2⟩
  · obtain ⟨x, k1, k2⟩ := R.vs i p e
    exact ⟨x, k1, RP.mono l _ _ k2⟩
  · obtain ⟨a, k1, k2, k3, k4, k5⟩ := R.ow i o e
    have c : ow a := ⟨i, o, e, k1⟩
    obtain ⟨u, hu⟩ := k2.there
    have fa : F' a = some u := (hF1 c).trans hu
    have ha : H' a = H a := (h.fr a u fa).trans hu.symm
    exact ⟨a, k1, (k2.mono l).at ha, (h.fi a u fa).1, (h.fi a u fa).2, k5⟩
/-- no exception is wanted -/
abbrev noX : DX := fun _ _ _ => False
abbrev noW : DXr := fun _ _ _ _ => False
theorem tkN {X : Cx} {G : Gm} : L2.Takes X (trW G noW) := fun _ _ ⟨_, _, _, _, _, _, _, _, _, _, _, _, _, _, _, _, _, _, _, _, _, _, _, _, z⟩ => z.elim
/-- a def's own denotation -/
def den (n : Nat) (N : List Str) (T : DXr → DS) : DSp := fun as S Q E => as.length = n ∧ T (fun c fs _ S' => E c fs S') { nx := fun _ S' => Q .non S', rt := Q } (startE N as) S
abbrev bCx (P : Program) (w : World) (K : PySem.W.Frag) (mg : Str → Option Value) (base : Heap) (N : List Str) (qual : Str) (st : Stmt) (f : Addr) (cdv : Value) (A : Around) (outer : List PySem.Env) (s : Shared) (H : Hp) (E : XK) : Cx := cxOf (L2.CX P w) P w K mg base N qual (defScope st) f cdv A outer s H E
theorem fd_den {P : Program} {w : World} {K : PySem.W.Frag} {mg : Str → Option Value} {base : Heap} {k : Nat} {f : Addr} {fd : FuncData} {name qual : Str} {st : Stmt} {dvs : List V} {N ps : List Str} {T : DXr → DS}
    (M : Made K f fd name qual st dvs) (S : FnScope N ps (defScope st))
    (hbody : ∀ (cdv : Value) (A : Around) (outer : List PySem.Env) (s : Shared) (H : Hp) (E : XK) (F I0 : Hp) (W : DXr), A.guards = some [] → Room k (A.deeper (PyProof.Rows.envOfC qual (defScope st) s.heap.objs.size f cdv)) →
      L2.Takes (bCx P w K mg base N qual st f cdv A outer s H E) (trW (gm F I0 (bCx P w K mg base N qual st f cdv A outer s H E)) W) →
      PassesOwn (model P w) (bCx P w K mg base N qual st f cdv A outer s H E).A (bCx P w K mg base N qual st f cdv A outer s H E).env (bCx P w K mg base N qual st f cdv A outer s H E).xe →
      DSs F I0 (bCx P w K mg base N qual st f cdv A outer s H E) (defBody st) (T W)) : Fd P w K mg base (L2.CX P w) (k + 1) f fd ps (lift K w (den ps.length N T)) := by
  refine fd_of M S (fun xs H Q E ⟨F, S, I, as, Q0, X0, hS, r, q, _⟩ => by rw [← r.length]; exact q.1) fun cdv A outer s H xs Q E g hr ⟨F, S0, I, as, Q0, X0, hS, r, q, h1, h2⟩ => ?_
  have tk := (L2.takes_of (X := bCx P w K mg base N qual st f cdv A outer s H E) (E := E) rfl rfl rfl rfl).imp (W' := trW (gm F I (bCx P w K mg base N qual st f cdv A outer s H E)) fun c fs _ S' => X0 c fs S')
    fun c d σ H ⟨n, fs, ρ, S', I', e, R, xr, wq⟩ => by subst e; exact h2 n d H fs S' I' R.sr xr wq
  refine ⟨_, hbody cdv A outer s H E F I _ g hr tk (L2.passes_of rfl), startE N as, S0, I, _, start_rel hS r, q.2, fun σ' H' ρ' S' I' l R' q' => h1 _ _ _ _ _ R'.sr (RP.mkN : RP (⟨K, w, F, I⟩ : Gm) I' .non .non) q', fun x H' p S' I' l h rp q' => h1 _ _ _ _ _ h rp q', fun _ _ _ _ _ _ _ q' => q'.elim, fun _ _ _ _ _ _ _ q' => q'.elim⟩
/-- the callee runs at some place below the body; σ: the slots of the deep state, τ: those of the body -/
theorem run_at2 {X : Cx} {F I0 : Hp} {k : Nat} {f : Addr} {fd : FuncData} {ps : List Str} {d : DSp} {A : Around} {pins : List (Addr × Obj)} {σ τ : L2.St} {H : Hp} {s : Shared} {us ws : List Value} {kw : List (Str × Value)} {xs : List V} {as : List P} {ρ : Env} {S : Store} {I : Hp} {Q : P → Store → Prop} {W : DXr} {W0 : WX} {R0 : Result → Shared → Prop}
    (Fn : Fd X.prog X.w X.K X.mg X.base (L2.CX X.prog X.w) k f fd ps (lift X.K X.w d)) (g : A.guards = some []) (hr : Room k A) (hf : A.frames = X.A.frames) (hw : ∀ c dd H', trW (gm F I0 X) W c dd σ H' → W0 c dd τ H')
    (hb : BindsTo s fd ⟨us, kw⟩ (ps.zip ws)) (J : L2.Inv X pins τ H s) (rv : Vals xs ws) (R : Rel (gm F I0 X) ρ S I σ H) (rp : RPs (gm F I0 X) I as xs) (q : d as S Q fun n fs S' => W n fs ρ S')
    (hok : ∀ x H' p S' I' u s', Le I I' → Rel (gm F I0 X) ρ S' I' σ H' → RP (gm F I0 X) I' p x → Q p S' → L2.Inv X pins τ H' s' → RelV x u → R0 (.ok (.ret u)) s')
    (her : ∀ e s', L2.XE X W0 e s' → R0 (.error e) s') : codeAny (model X.prog X.w) A (.call (.ref f) ⟨us, kw⟩) R0 s := by
  obtain ⟨F', h1, h2⟩ := R.call
  have en : Env0 X.prog X.w X.K X.mg X.base A X.stack s H := by
    have e := J.env0
    exact ⟨by rw [hf]; exact e.frames, e.mod, e.bs, e.bsz, e.funs, e.frf, e.hok, e.bare⟩
  refine codeAny_mono (Fn.run A X.stack s H ⟨us, kw⟩ ws xs (fun x H' => ∃ p S' I', Le I I' ∧ Rel (gm F I0 X) ρ S' I' σ H' ∧ RP (gm F I0 X) I' p x ∧ Q p S') (fun c dd H' => trW (gm F I0 X) W c dd σ H') g hr en hb rv
    ⟨F', S, I, as, Q, _, h1.re rfl rfl Le.refl, RPs.gm _ rp rfl, q, fun x H' p S' I' h rp' q' => ?_, fun n a H' fs S' I' h xr wq => ?_⟩) fun r s' hq => ?_
  · exact ⟨p, S', I', h.i0, h2 S' I' H' h.i0 (h.re rfl rfl (R.sr.i0.trans h.i0)), RP.gm (gm F I0 X) rp' rfl, q'⟩
  · exact ⟨n, fs, ρ, S', I', rfl, h2 S' I' H' h.i0 (h.re rfl rfl (R.sr.i0.trans h.i0)), xr.gm rfl, wq⟩
  · cases r with
    | error e => exact her e s' (L2.XE.of_call J (fun c dd H' z => hw c dd H' z) hq)
    | ok fl =>
      cases fl with
      | ret u =>
        obtain ⟨v, H', I3, rv3, p, S', I', l, R', rp', q'⟩ := J.after hq
        exact hok v H' p S' I' u s' l R' rp' q' I3 rv3
      | next => exact hq.elim
      | brk => exact hq.elim
      | cont => exact hq.elim
theorem run_at {X : Cx} {F I0 : Hp} {k : Nat} {f : Addr} {fd : FuncData} {ps : List Str} {d : DSp} {A : Around} {pins : List (Addr × Obj)} {σ : L2.St} {H : Hp} {s : Shared} {us ws : List Value} {kw : List (Str × Value)} {xs : List V} {as : List P} {ρ : Env} {S : Store} {I : Hp} {Q : P → Store → Prop} {W : DXr} {R0 : Result → Shared → Prop}
    (Fn : Fd X.prog X.w X.K X.mg X.base (L2.CX X.prog X.w) k f fd ps (lift X.K X.w d)) (g : A.guards = some []) (hr : Room k A) (hf : A.frames = X.A.frames) (tk : L2.Takes X (trW (gm F I0 X) W))
    (hb : BindsTo s fd ⟨us, kw⟩ (ps.zip ws)) (J : L2.Inv X pins σ H s) (rv : Vals xs ws) (R : Rel (gm F I0 X) ρ S I σ H) (rp : RPs (gm F I0 X) I as xs) (q : d as S Q fun n fs S' => W n fs ρ S')
    (hok : ∀ x H' p S' I' u s', Le I I' → Rel (gm F I0 X) ρ S' I' σ H' → RP (gm F I0 X) I' p x → Q p S' → L2.Inv X pins σ H' s' → RelV x u → R0 (.ok (.ret u)) s')
    (her : ∀ e s', X.xe e s' → R0 (.error e) s') : codeAny (model X.prog X.w) A (.call (.ref f) ⟨us, kw⟩) R0 s :=
  run_at2 Fn g hr hf (fun _ _ _ z => z) hb J rv R rp q hok fun e s' z => her e s' (tk e s' z)
theorem XE.no {X : Cx} {e : Value} {s' : Shared} (h : L2.XE X (fun _ _ _ _ => False) e s') : False := by
  obtain ⟨_, _, _, _, _, _, _, _, _, _, _, _, _, _, _, _, z⟩ := h; exact z
theorem trW.no {G : Gm} {c : Value} {dd : Option Addr} {σ : L2.St} {H : Hp} (h : trW G noW c dd σ H) : False := by
  obtain ⟨_, _, _, _, _, _, _, _, z⟩ := h; exact z
end D
/-! D10: calls of the text's defs by deep values; the law's entry. -/
namespace D
open PySem PySem.Spec L2

/-! ### calls -/
def TCl (W : DXr) (d : DSp) (ds : List P) (A : DA) : DT := fun ρ S Q => A ρ S fun rs ρ1 S1 => match vals rs with
  | some ps => d (ps ++ ds) S1 (fun p S2 => Q (.v p) ρ1 S2) fun c fs S2 => W c fs ρ1 S2
  | none => False
/-- where a parameter's value comes from -/
inductive Arg where
  | p (j : Nat) | k (j : Nat) | d (j : Nat)
def Arg.get {α : Type} (us ws ds : List α) : Arg → Option α
  | .p j => us[j]?
  | .k j => ws[j]?
  | .d j => ds[j]?
def arr {α : Type} (us ws ds : List α) : List Arg → List α
  | [] => []
  | a :: r => match a.get us ws ds with
    | some x => x :: arr us ws ds r
    | none => []
/-- a call with keywords, its arguments come -/
def finK (W : DXr) (d : DSp) (n m : Nat) (src : List Arg) (ds : List P) (rs qs : List R) (ρ : Env) (S : Store) (Q : DQ) : Prop := match vals rs, vals qs with
  | some as, some bs => as.length = n ∧ bs.length = m ∧ d (arr as bs ds src) S (fun p S3 => Q (.v p) ρ S3) fun c fs S3 => W c fs ρ S3
  | _, _ => False
def TClK (W : DXr) (d : DSp) (n m : Nat) (src : List Arg) (ds : List P) (A Ak : DA) : DT := fun ρ S Q => A ρ S fun rs ρ1 S1 => Ak ρ1 S1 fun ks ρ2 S2 => finK W d n m src ds rs ks ρ2 S2 Q
theorem RPs.none {G : Gm} {I : Hp} {ps : List P} {vs : List V} (t : RPs G I ps vs) {j : Nat} (e : ps[j]? = none) : vs[j]? = none := by
  rw [List.getElem?_eq_none_iff] at e ⊢; rw [← t.length]; exact e
theorem Arg.rps {G : Gm} {I : Hp} {us ws ds : List P} {vs zs es : List V} (h1 : RPs G I us vs) (h2 : RPs G I ws zs) (h3 : RPs G I ds es) (a : Arg) :
    (∃ p x, a.get us ws ds = some p ∧ a.get vs zs es = some x ∧ RP G I p x) ∨ (a.get us ws ds = none ∧ a.get vs zs es = none) := by
  have key : ∀ {as : List P} {bs : List V}, RPs G I as bs → ∀ j : Nat, (∃ p x, as[j]? = some p ∧ bs[j]? = some x ∧ RP G I p x) ∨ (as[j]? = Option.none ∧ bs[j]? = Option.none) := by
    intro as bs t j
    cases e : as[j]? with
    | none => exact .inr ⟨rfl, t.none e⟩
    | some p => obtain ⟨x, hx, r⟩ := t.get e; exact .inl ⟨p, x, rfl, hx, r⟩
  cases a with
  | p j => exact key h1 j
  | k j => exact key h2 j
  | d j => exact key h3 j
theorem arr_rps {G : Gm} {I : Hp} {us ws ds : List P} {vs zs es : List V} (h1 : RPs G I us vs) (h2 : RPs G I ws zs) (h3 : RPs G I ds es) : ∀ src : List Arg, RPs G I (arr us ws ds src) (arr vs zs es src)
  | [] => rfl
  | a :: r => by
    unfold arr
    rcases Arg.rps h1 h2 h3 a with ⟨p, x, e1, e2, rp⟩ | ⟨e1, e2⟩
    · rw [e1, e2]; exact ⟨x, _, rfl, rp, arr_rps h1 h2 h3 r⟩
    · rw [e1, e2]; exact rfl
theorem arr_vals {vs zs es : List V} {us ws ds : List Value} (h1 : Vals vs us) (h2 : Vals zs ws) (h3 : Vals es ds) : ∀ src : List Arg, Vals (arr vs zs es src) (arr us ws ds src)
  | [] => .nil
  | a :: r => by
    have key : ∀ {as : List V} {bs : List Value}, Vals as bs → ∀ j : Nat, (∃ p x, as[j]? = some p ∧ bs[j]? = some x ∧ RelV p x) ∨ (as[j]? = none ∧ bs[j]? = none) := by
      intro as bs t j
      cases e : as[j]? with
      | none => refine .inr ⟨rfl, ?_⟩; rw [List.getElem?_eq_none_iff] at e ⊢; rw [← t.length]; exact e
      | some p => obtain ⟨x, hx, q⟩ := t.get e; exact .inl ⟨p, x, rfl, hx, q⟩
    have : (∃ p x, a.get vs zs es = some p ∧ a.get us ws ds = some x ∧ RelV p x) ∨ (a.get vs zs es = none ∧ a.get us ws ds = none) := by
      cases a with
      | p j => exact key h1 j
      | k j => exact key h2 j
      | d j => exact key h3 j
    unfold arr
    rcases this with ⟨p, x, e1, e2, q⟩ | ⟨e1, e2⟩
    · rw [e1, e2]; exact .cons q (arr_vals h1 h2 h3 r)
    · rw [e1, e2]; exact .nil
/-- how a call binds: the parameters' sources, the defaults -/
structure KB (K : PySem.W.Frag) (fd : FuncData) (ps : List Str) (ks : List Str) (n : Nat) (src : List Arg) (ds : List Value) : Prop where
  to : ∀ (s : Shared) (us ws : List Value), K.In s.heap → us.length = n → ws.length = ks.length → BindsTo s fd ⟨us, ks.zip ws⟩ (ps.zip (arr us ws ds src))
/-- the defaults' values -/
structure DfR (K : PySem.W.Frag) (ds : List P) (es : List V) (us : List Value) : Prop where
  rel : Vals es us
  rp : ∀ (G : Gm) (I : Hp), G.K = K → RPs G I ds es
theorem DfR.nil {K : PySem.W.Frag} : DfR K [] [] [] := ⟨.nil, fun _ _ _ => rfl⟩
section
variable {X : Cx} {F I0 : Hp} {k : Nat} {f : Addr} {fd : FuncData} {ps ks : List Str} {d : DSp} {x : Str} {p pos : Pos} {e : Expr} {es : List Expr} {kws : List Keyword} {A Ak : DA} {ds : List P} {dV : List V} {dU : List Value} {src : List Arg} {n : Nat} {W : DXr}
/-- the promise used: the caller's state comes back -/
theorem run_deep {pins : List (Addr × Obj)} {σ : L2.St} {H : Hp} {s : Shared} {us ws : List Value} {kw : List (Str × Value)} {xs : List V} {as : List P} {ρ : Env} {S : Store} {I : Hp} {Q : VK} {Q0 : DQ} (Fn : Fd X.prog X.w X.K X.mg X.base (L2.CX X.prog X.w) k f fd ps (lift X.K X.w d)) (g : X.A.guards = some []) (hr : Room k X.A)
    (tk : L2.Takes X (trW (gm F I0 X) W)) (hb : BindsTo s fd ⟨us, kw⟩ (ps.zip ws)) (J : L2.Inv X pins σ H s) (rv : Vals xs ws) (R : Rel (gm F I0 X) ρ S I σ H) (rp : RPs (gm F I0 X) I as xs) (q : d as S (fun p S2 => Q0 (.v p) ρ S2) fun c fs S2 => W c fs ρ S2)
    (post : ∀ x H' r ρ' S' I', Le I I' → Rel (gm F I0 X) ρ' S' I' σ H' → RR (gm F I0 X) I' σ r x → Q0 r ρ' S' → Q x H') : wpAny (model X.prog X.w) X.A (call (.ref f) us kw) (EP X pins σ Q) X.xe s :=
  wpAny_call (codeAny_mono (run_at (R0 := fun r s' => match r with
      | .ok (.ret u) => EP X pins σ Q u s'
      | .ok _ => False
      | .error e => X.xe e s') Fn g hr rfl tk hb J rv R rp q (fun x H' p S' I' u s' l R' rp' q' J' ru => ⟨x, H', J', ru, post x H' (.v p) ρ S' I' l R' rp' q'⟩) fun e s' h => h) fun r s' hq => by
    cases r with
    | error e => exact hq
    | ok fl => cases fl with
      | ret u => exact hq
      | next => exact hq.elim
      | brk => exact hq.elim
      | cont => exact hq.elim)
theorem len_of (Fn : Fd X.prog X.w X.K X.mg X.base (L2.CX X.prog X.w) k f fd ps (lift X.K X.w d)) {ρ : Env} {S : Store} {I : Hp} {σ : L2.St} {H : Hp} {as : List P} {xs : List V} {Q : P → Store → Prop} {E : DX} (R : Rel (gm F I0 X) ρ S I σ H) (rp : RPs (gm F I0 X) I as xs) (q : d as S Q E) : xs.length = ps.length := by
  obtain ⟨F', h1, _⟩ := R.call
  exact Fn.len xs H (fun _ _ => True) (fun _ _ _ => True) ⟨F', S, I, as, _, _, h1.re rfl rfl Le.refl, RPs.gm _ rp rfl, q, fun _ _ _ _ _ _ _ _ => trivial, fun _ _ _ _ _ _ _ _ _ => trivial⟩
theorem d_call (Fn : Fd X.prog X.w X.K X.mg X.base (L2.CX X.prog X.w) k f fd ps (lift X.K X.w d)) (g : X.A.guards = some []) (hr : Room k X.A) (tk : L2.Takes X (trW (gm F I0 X) W)) (hg : Gl X x) (hm : X.mg x = some (.ref f)) (hk : PySem.W.keepIn X.K (.ref f) = true) (hb : Binds X.K fd ps dU) (hd : DfR X.K ds dV dU)
    (ha : DAs F I0 X (e :: es) A) (hdb : (x == ("__debug__" : Str)) = false := by decide) (he : StOk X e es := by rfl) (hpl : PlOk X pos es := by rfl) : DE F I0 X (.Call (.Name x p) (e :: es) [] pos) (TCl W d ds A) := by
  refine ⟨fun pins s σ H Q J h => ?_⟩
  obtain ⟨ρ, S, I, Q0, R, h, post⟩ := h
  refine wpAny_Call_Name_kw (ld_glob J hg hm ?_ hdb)
  refine PySem.W.callWith_K (h₀ := X.base) J.ok.mod.kin hk (thn (ha.run pos pins s σ H (fun xs H1 => ∃ rs ρ1 S1 I1, Le I I1 ∧ Rel (gm F I0 X) ρ1 S1 I1 σ H1 ∧ RRs (gm F I0 X) I1 σ rs xs ∧ (match vals rs with
      | some ps => d (ps ++ ds) S1 (fun p S2 => Q0 (.v p) ρ1 S2) fun c fs S2 => W c fs ρ1 S2
      | none => False)) J ⟨ρ, S, I, _, R, h, fun xs H' rs ρ' S' I' l R' rr q => ⟨rs, ρ', S', I', l, R', rr, q⟩⟩) fun us s1 ⟨xs, H1, J1, rx, rs, ρ1, S1, I1, l, R1, rr, q⟩ => ⟨J1.kIn, ?_⟩) he hpl
  split at q
  · rename_i qs hq
    have rp := (vals_of rr hq).append (hd.rp (gm F I0 X) I1 rfl)
    have rv := rx.append hd.rel
    have hl : (us ++ dU).length = ps.length := by rw [← rv.length]; exact len_of Fn R1 rp q
    exact run_deep Fn g hr tk (hb s1 us J1.kIn hl) J1 rv R1 rp q fun x H' r ρ' S' I' l2 => post x H' r ρ' S' I' (l.trans l2)
  · exact q.elim
/-- f() -/
theorem d_call0 (Fn : Fd X.prog X.w X.K X.mg X.base (L2.CX X.prog X.w) k f fd ps (lift X.K X.w d)) (g : X.A.guards = some []) (hr : Room k X.A) (tk : L2.Takes X (trW (gm F I0 X) W)) (hg : Gl X x) (hm : X.mg x = some (.ref f)) (hk : PySem.W.keepIn X.K (.ref f) = true) (hb : Binds X.K fd ps dU) (hd : DfR X.K ds dV dU)
    (hdb : (x == ("__debug__" : Str)) = false := by decide) : DE F I0 X (.Call (.Name x p) [] [] pos) (TCl W d ds ANil) := by
  refine ⟨fun pins s σ H Q J h => ?_⟩
  obtain ⟨ρ, S, I, Q0, R, h, post⟩ := h
  refine wpAny_Call_Name_kw (ld_glob J hg hm ?_ hdb)
  have rp : RPs (gm F I0 X) I ([] ++ ds) ([] ++ dV) := hd.rp (gm F I0 X) I rfl
  have rv : Vals ([] ++ dV) ([] ++ dU) := hd.rel
  have hl : (([] : List Value) ++ dU).length = ps.length := by rw [← rv.length]; exact len_of Fn R rp h
  exact PySem.W.callWith_K0 J.kIn hk (run_deep (us := []) Fn g hr tk (hb s [] J.kIn hl) J rv R rp h post)
end

section
variable {K : PySem.W.Frag} {f : Addr} {fd : FuncData} {name qual : Str} {st : Stmt} {ps : List Str}
/-- keywords, no defaults -/
theorem kb0 (M : Made K f fd name qual st []) (ks : List Str) (n : Nat) (src : List Arg) (h : ∀ (kV doc pm : Value) (an : Option Addr) (cdv ct : Value) (us ws : List Value), us.length = n → ws.length = ks.length →
    bindArgs (PySem.W.fnOf name qual (defArgs st) (defBody st) (defScope st) .none kV doc pm an cdv ct) ⟨us, ks.zip ws⟩ = pure (ps.zip (arr us ws [] src))) : KB K fd ps ks n src [] := by
  obtain ⟨oc, od, dV, kV, doc, pm, an, cdv, ct, osl, rfl, lk, hcd, hD, _⟩ := M.ex
  rcases hD with ⟨_, rfl⟩ | ⟨ez, _⟩
  · exact ⟨fun s us ws _ h1 h2 => .of_eq (h kV doc pm an cdv ct us ws h1 h2)⟩
  · exact absurd rfl ez
/-- keywords and defaults -/
theorem kb1 {dvs : List V} (M : Made K f fd name qual st dvs) (ks : List Str) (n : Nat) (src : List Arg) (hd : dvs ≠ []) (h : ∀ (T : Addr) (kV doc pm : Value) (an : Option Addr) (cdv ct : Value) (us ws its : List Value), us.length = n → ws.length = ks.length → its.length = dvs.length →
    ∃ k, bindArgs (PySem.W.fnOf name qual (defArgs st) (defBody st) (defScope st) (.ref T) kV doc pm an cdv ct) ⟨us, ks.zip ws⟩ = seqItems? (.ref T) >>= k ∧ k (some its.toArray) = pure (ps.zip (arr us ws its src))) : ∃ its, Vals dvs its ∧ KB K fd ps ks n src its := by
  obtain ⟨oc, od, dV, kV, doc, pm, an, cdv, ct, osl, rfl, lk, hcd, hD, _⟩ := M.ex
  rcases hD with ⟨e, _⟩ | ⟨_, T, o, its, m, rfl, qT, oT, rT⟩
  · exact absurd e hd
  · refine ⟨its, rT, ⟨fun s us ws X h1 h2 => ?_⟩⟩
    obtain ⟨g, e1, e2⟩ := h T kV doc pm an cdv ct us ws its h1 h2 rT.length.symm
    refine BindsTo.of_looks fun _ => ?_; rw [e1]
    exact looks_items X qT oT (.of_pure e2)
end
section
variable {X : Cx} {F I0 : Hp} {k : Nat} {f : Addr} {fd : FuncData} {ps ks : List Str} {d : DSp} {x : Str} {p pos : Pos} {e : Expr} {es : List Expr} {kws : List Keyword} {A Ak : DA} {ds : List P} {dV : List V} {dU : List Value} {src : List Arg} {n : Nat} {W : DXr}
abbrev DK (F I0 : Hp) (X : Cx) (kws : List Keyword) (T : DA) : Prop := PK X kws (trA (gm F I0 X) T)
theorem _root_.L2.PK.weak {X : Cx} {kws : List Keyword} {t t' : TA} (h : PK X kws t) (k : ∀ σ H Q, t' σ H Q → t σ H Q) : PK X kws t' := ⟨fun o p s σ H Q I q => h.run o p s σ H Q I (k _ _ _ q)⟩
theorem k_nil : DK F I0 X [] ANil := pk_nil.weak fun σ H Q h => by
  obtain ⟨ρ, S, I, Q0, R, h, post⟩ := h
  exact post [] _ [] _ _ _ Le.refl R rfl h
theorem k_cons {t : DT} {u : DA} {nm : Option Str} {kpos : Pos} (h1 : DE F I0 X e t) (h2 : DK F I0 X kws u) : DK F I0 X (⟨nm, e, kpos⟩ :: kws) (ACons t u) := by
  refine (pk_cons h1 h2).weak fun σ H Q h => ?_
  obtain ⟨ρ, S, I, Q0, R, h, post⟩ := h
  refine ⟨ρ, S, I, _, R, h, fun x H1 r ρ1 S1 I1 l1 R1 rr q => ⟨ρ1, S1, I1, _, R1, q, fun xs H2 rs ρ2 S2 I2 l2 R2 rrs q2 => ?_⟩⟩
  exact post _ _ (r :: rs) _ _ _ (l1.trans l2) R2 ⟨x, xs, rfl, rr.mono l2, rrs⟩ q2
/-- f(.., k = v, ..): the arguments have come -/
theorem fin_K (Fn : Fd X.prog X.w X.K X.mg X.base (L2.CX X.prog X.w) k f fd ps (lift X.K X.w d)) (g : X.A.guards = some []) (hr : Room k X.A) (tk : L2.Takes X (trW (gm F I0 X) W)) (hb : KB X.K fd ps ks n src dU) (hd : DfR X.K ds dV dU)
    {pins : List (Addr × Obj)} {σ : L2.St} {H : Hp} {s : Shared} {us ws : List Value} {xs zs : List V} {rs qs : List R} {ρ : Env} {S : Store} {I I1 : Hp} {Q : VK} {Q0 : DQ} {m : Nat} (hml : ks.length = m) (J : L2.Inv X pins σ H s) (r1 : Vals xs us) (r2 : Vals zs ws) (l : Le I1 I) (R : Rel (gm F I0 X) ρ S I σ H) (rr : RRs (gm F I0 X) I1 σ rs xs) (rq : RRs (gm F I0 X) I σ qs zs)
    (q : finK W d n m src ds rs qs ρ S Q0) (post : ∀ x H' r ρ' S' I', Le I I' → Rel (gm F I0 X) ρ' S' I' σ H' → RR (gm F I0 X) I' σ r x → Q0 r ρ' S' → Q x H') : wpAny (model X.prog X.w) X.A (call (.ref f) us (ks.zip ws)) (EP X pins σ Q) X.xe s := by
  subst hml
  unfold finK at q
  split at q
  · rename_i as bs e1 e2
    obtain ⟨n1, n2, q⟩ := q
    have p1 := vals_of rr e1
    have p2 := vals_of rq e2
    have rp := arr_rps (RPs.mono l _ _ p1) p2 (hd.rp (gm F I0 X) I rfl) src
    exact run_deep Fn g hr tk (hb.to s us ws J.kIn (by rw [← r1.length, ← p1.length]; exact n1) (by rw [← r2.length, ← p2.length]; exact n2)) J (arr_vals r1 r2 hd.rel src) R rp q post
  · exact q.elim
theorem d_callK0 {m : Nat} (Fn : Fd X.prog X.w X.K X.mg X.base (L2.CX X.prog X.w) k f fd ps (lift X.K X.w d)) (g : X.A.guards = some []) (hr : Room k X.A) (tk : L2.Takes X (trW (gm F I0 X) W)) (hg : Gl X x) (hm : X.mg x = some (.ref f)) (hk : PySem.W.keepIn X.K (.ref f) = true) (hb : KB X.K fd ps ks 0 src dU) (hd : DfR X.K ds dV dU)
    (hkw : DK F I0 X kws Ak) (hall : (backToKw pos (keywordEach kws X.env)).all (·.1.isSome) = true := by rfl) (hks : (backToKw pos (keywordEach kws X.env)).filterMap (·.1) = ks := by rfl)
    (hml : ks.length = m := by rfl) (hdb : (x == ("__debug__" : Str)) = false := by decide) (hpl : ((backTo pos (starEach [] X.env)).any (·.1) || (backToKw pos (keywordEach kws X.env)).any (·.1.isNone)) = false := by rfl) : DE F I0 X (.Call (.Name x p) [] kws pos) (TClK W d 0 m src ds ANil Ak) := by
  refine ⟨fun pins s σ H Q J h => ?_⟩
  obtain ⟨ρ, S, I, Q0, R, h, post⟩ := h
  refine wpAny_Call_Name_kw (ld_glob J hg hm ?_ hdb)
  refine PySem.W.callWith_KW0 (h₀ := X.base) J.ok.mod.kin hk hall (thn (hkw.run pos pins s σ H (fun zs H1 => ∃ qs ρ1 S1 I1, Le I I1 ∧ Rel (gm F I0 X) ρ1 S1 I1 σ H1 ∧ RRs (gm F I0 X) I1 σ qs zs ∧ finK W d 0 m src ds [] qs ρ1 S1 Q0)
    J ⟨ρ, S, I, _, R, h, fun zs H' qs ρ' S' I' l R' rq q => ⟨qs, ρ', S', I', l, R', rq, q⟩⟩) fun ws s1 ⟨zs, H1, J1, rz, qs, ρ1, S1, I1, l, R1, rq, q⟩ => ⟨J1.kIn, ?_⟩) hpl
  rw [hks]
  exact fin_K (xs := []) (us := []) (rs := []) (I1 := I1) Fn g hr tk hb hd hml J1 .nil rz Le.refl R1 rfl rq q fun x H' r ρ' S' I' l2 => post x H' r ρ' S' I' (l.trans l2)
theorem d_callK {m : Nat} (Fn : Fd X.prog X.w X.K X.mg X.base (L2.CX X.prog X.w) k f fd ps (lift X.K X.w d)) (g : X.A.guards = some []) (hr : Room k X.A) (tk : L2.Takes X (trW (gm F I0 X) W)) (hg : Gl X x) (hm : X.mg x = some (.ref f)) (hk : PySem.W.keepIn X.K (.ref f) = true) (hb : KB X.K fd ps ks n src dU) (hd : DfR X.K ds dV dU)
    (ha : DAs F I0 X (e :: es) A) (hkw : DK F I0 X kws Ak) (hall : (backToKw pos (keywordEach kws X.env)).all (·.1.isSome) = true := by rfl) (hks : (backToKw pos (keywordEach kws X.env)).filterMap (·.1) = ks := by rfl)
    (hml : ks.length = m := by rfl) (hdb : (x == ("__debug__" : Str)) = false := by decide) (he : StOk X e es := by rfl) (hpl : ((backTo pos (starEach (e :: es) X.env)).any (·.1) || (backToKw pos (keywordEach kws X.env)).any (·.1.isNone)) = false := by rfl) : DE F I0 X (.Call (.Name x p) (e :: es) kws pos) (TClK W d n m src ds A Ak) := by
  refine ⟨fun pins s σ H Q J h => ?_⟩
  obtain ⟨ρ, S, I, Q0, R, h, post⟩ := h
  refine wpAny_Call_Name_kw (ld_glob J hg hm ?_ hdb)
  refine PySem.W.callWith_KW (h₀ := X.base) J.ok.mod.kin hk hall (thn (ha.run pos pins s σ H (fun xs H1 => ∃ rs ρ1 S1 I1, Le I I1 ∧ Rel (gm F I0 X) ρ1 S1 I1 σ H1 ∧ RRs (gm F I0 X) I1 σ rs xs ∧ Ak ρ1 S1 fun ks' ρ2 S2 => finK W d n m src ds rs ks' ρ2 S2 Q0)
    J ⟨ρ, S, I, _, R, h, fun xs H' rs ρ' S' I' l R' rr q => ⟨rs, ρ', S', I', l, R', rr, q⟩⟩) fun us s1 ⟨xs, H1, J1, rx, rs, ρ1, S1, I1, l, R1, rr, q1⟩ => ?_) hpl he
  refine thn (hkw.run pos pins s1 σ H1 (fun zs H2 => ∃ qs ρ2 S2 I2, Le I1 I2 ∧ Rel (gm F I0 X) ρ2 S2 I2 σ H2 ∧ RRs (gm F I0 X) I2 σ qs zs ∧ finK W d n m src ds rs qs ρ2 S2 Q0)
    J1 ⟨ρ1, S1, I1, _, R1, q1, fun zs H' qs ρ' S' I' l R' rq q => ⟨qs, ρ', S', I', l, R', rq, q⟩⟩) fun ws s2 ⟨zs, H2, J2, rz, qs, ρ2, S2, I2, l2, R2, rq, q⟩ => ⟨J2.kIn, ?_⟩
  rw [hks]
  exact fin_K Fn g hr tk hb hd hml J2 rx rz l2 R2 rr rq q fun x H' r ρ' S' I' l3 => post x H' r ρ' S' I' (l.trans (l2.trans l3))
end

/-! ### the law's entry -/
abbrev E0 : Hp := fun _ => none
abbrev St0 : Store := fun _ => none
/-- the law's own promise: a script comes in, True goes out -/
def dLaw (n : Nat) : DSp := fun as S Q _ => ∃ ns : List Int, as = [.scr (ns.map P.int)] ∧ ns.length ≤ n ∧ ∀ S', Q (.bl true) S'
theorem scr_rps {G : Gm} {I : Hp} : ∀ ns : List Int, RPs G I (ns.map P.int) (ns.map V.int)
  | [] => rfl
  | n :: r => ⟨.int n, _, rfl, rfl, scr_rps r⟩
/-- the run from a heap in which at most the script is known -/
theorem enter_D {P : Program} {w : World} {K : PySem.W.Frag} {mg mb : Str → Option Value} {k n : Nat} {fa a : Addr} {fd : FuncData} {x : Str} {s₁ : Shared} {ns : List Int} {H : Hp}
    (KX : K.In s₁.heap) (hns : s₁.heap.Ns mainGlobals mg) (hb : s₁.heap.Ns builtinsNs mb) (hbb : ∀ x : Str, x ≠ "__name__" → mb x = bootBuiltins x) (hlim : s₁.heap.NoLimit) (hg : s₁.gens = #[]) (hr : Room k callerA)
    (F : ∀ base : Heap, K.In base → base.Ns mainGlobals mg → Fd P w K mg base (L2.CX P w) k fa fd [x] (lift K w (dLaw n))) (hbind : ∀ (s : Shared) (u : Value), BindsTo s fd ⟨[u], []⟩ [(x, u)]) (hl : ns.length ≤ n)
    (hok : HOk P w H s₁.heap) (hS : SqL K H a (ns.map V.int)) (hO : ∀ b u, H b = some u → ∃ o ys, u = .frz o (.lst ys) ∧ K.lookup b = none ∧ ∀ ob es ep, s₁.heap.get? b = some ob → ob.data ≠ .dict es ep) :
    codeAny (model P w) callerA (.call (.ref fa) ⟨[.ref a], []⟩) (fun r s' => r = .ok (.ret (.bool true)) ∧ OldK s₁.heap s'.heap ∧ s'.os = s₁.os ∧ PyProof.Rows.AllBare s'.gens) s₁ := by
  have free : ∀ {b : Addr} {o : Obj} {es : Array DictEntry} {ep : Nat}, s₁.heap.get? b = some o → o.data = .dict es ep → H b = none := fun {b o es ep} e d => by
    cases q : H b with
    | none => rfl
    | some u => obtain ⟨_, _, _, _, h⟩ := hO b u q; exact (h o es ep e d).elim
  have ns' : ∀ {b : Addr} {m : Str → Option Value}, s₁.heap.Ns b m → (hidT s₁.heap H).Ns b m := fun ⟨o, es, ep, e, d, r⟩ => ⟨o, es, ep, hidT_get e (free e d), d, r⟩
  have kin : K.In (hidT s₁.heap H) := fun b o e => hidT_get (KX b o e) (by
    cases q : H b with
    | none => rfl
    | some u => obtain ⟨_, _, _, h, _⟩ := hO b u q; rw [h] at e; cases e)
  obtain ⟨mc, l1, l2⟩ := hlim
  have env : Env0 P w K mg (hidT s₁.heap H) callerA [] s₁ H := ⟨rfl, ⟨kin, ns' hns, ⟨mb, ns' hb, hbb⟩, mc, ns' l1, l2⟩, fun b o e => of_hidT e, Nat.le_of_eq (hidT_size _ _), trivial, fun b hb => (nomatch hb), hok, .of_eq hg⟩
  have sr : StR ⟨K, w, E0, H⟩ St0 H H := ⟨Le.refl, Le.refl, fun _ _ e => (nomatch e), fun _ _ e => (nomatch e), fun _ _ e => (nomatch e)⟩
  refine codeAny_mono ((F _ kin (ns' hns)).run callerA [] s₁ H ⟨[.ref a], []⟩ [.ref a] [.ref a] (fun v _ => v = .bl true) (fun _ _ _ => False) rfl hr env (hbind s₁ (.ref a)) (.cons rfl .nil)
    ⟨E0, St0, H, [.scr (ns.map D.P.int)], fun p _ => p = .bl true, noX, sr, ⟨.ref a, [], rfl, ⟨a, _, rfl, hS, scr_rps ns⟩, rfl⟩, ⟨ns, rfl, hl, fun _ => rfl⟩, fun v H' p S' I' _ rp e => by subst e; exact rp, fun _ _ _ _ _ _ _ _ z => z⟩) fun r s' h => ?_
  cases r with
  | error e => obtain ⟨_, _, _, _, _, _, _, _, _, _, _, _, z⟩ := h; exact z.elim
  | ok fl =>
    cases fl with
    | next => exact h.elim
    | brk => exact h.elim
    | cont => exact h.elim
    | ret u =>
      obtain ⟨v, H', os, bare, un, hok', rv, q⟩ := h
      have q' : v = .bl true := q
      subst q'
      obtain rfl : u = Value.bool true := rv
      refine ⟨rfl, OldK.of_keep (fun b o e => ?_), os, bare⟩
      cases q : H b with
      | none => exact un.keep b o e q (fun z => nomatch (show b ∈ ([] : List Addr) from z)) (by simp)
      | some u =>
        obtain ⟨ob, ys, rfl, _⟩ := hO b u q
        obtain ⟨e1, _⟩ := hok b _ q
        obtain ⟨e2, _⟩ := hok' b _ (un.frzs b ob _ q)
        rw [e] at e1; cases e1
        exact e2
theorem call_D {P : Program} {w : World} {K : PySem.W.Frag} {mg mb : Str → Option Value} {k n : Nat} {fa a : Addr} {fd : FuncData} {x : Str} {s₁ : Shared} {vs : List Value} {ns : List Int}
    (KX : K.In s₁.heap) (hns : s₁.heap.Ns mainGlobals mg) (hb : s₁.heap.Ns builtinsNs mb) (hbb : ∀ x : Str, x ≠ "__name__" → mb x = bootBuiltins x) (hlim : s₁.heap.NoLimit) (hg : s₁.gens = #[]) (hr : Room k callerA)
    (F : ∀ base : Heap, K.In base → base.Ns mainGlobals mg → Fd P w K mg base (L2.CX P w) k fa fd [x] (lift K w (dLaw n))) (hbind : ∀ (s : Shared) (u : Value), BindsTo s fd ⟨[u], []⟩ [(x, u)]) (hl : ns.length ≤ n) (hn : n ≤ sizeLine)
    (ha : s₁.heap.get? a = some ⟨.type "list", none, .seq vs.toArray 0, #[]⟩) (hi : PyProof.Rows.IntsAre vs ns) :
    codeAny (model P w) callerA (.call (.ref fa) ⟨[.ref a], []⟩) (fun r s' => r = .ok (.ret (.bool true)) ∧ OldK s₁.heap s'.heap ∧ s'.os = s₁.os ∧ PyProof.Rows.AllBare s'.gens) s₁ := by
  have rv := L2.vals_ints hi
  have lenV := hi.length
  cases hk : K.lookup a with
  | some o =>
    have e := KX a o hk
    rw [ha] at e; cases e
    refine enter_D (H := E0) KX hns hb hbb hlim hg hr F hbind hl (fun b u z => (nomatch z)) (.inr ⟨_, vs.toArray, _, hk, rfl, rfl, rfl, ?_, by simpa using rv⟩) fun b u z => (nomatch z)
    rw [List.size_toArray, lenV]; omega
  | none =>
    refine enter_D (H := upd E0 a (.frz ⟨.type "list", none, .seq vs.toArray 0, #[]⟩ (.lst (ns.map V.int)))) KX hns hb hbb hlim hg hr F hbind hl (fun b u z => ?_) (.inl (.inr ⟨_, upd_same⟩)) fun b u z => ?_
    · by_cases c : b = a
      · subst c; rw [upd_same] at z; cases z
        exact ⟨ha, by rw [List.length_map]; omega, vs, _, rv, ha⟩
      · rw [upd_ne c] at z; cases z
    · by_cases c : b = a
      · subst c; rw [upd_same] at z; cases z
        refine ⟨_, _, rfl, hk, fun ob es ep e d => ?_⟩
        rw [ha] at e; cases e; cases d
      · rw [upd_ne c] at z; cases z
/-- what the head leaves, from the law's deep promise -/
theorem walk_D {l : PySem.W.OpenLaw} {n k : Nat} {q : Program} {loose : List Str} {XP : (Str → Option Value) → Heap → Prop} {YP : World → Heap → Prop} {d : DefRec} {x : Str}
    (hr : Room k callerA) (hn2 : n ≤ sizeLine) (hn : l.most = some n) (hdf : d.params.defaults = [])
    (F : ∀ (w : World) (mg : Str → Option Value) (fa : Addr) (h : Heap), YP w h → h.Ns mainGlobals mg → mg d.name = some (.ref fa) → ∃ (K : PySem.W.Frag) (fd : FuncData), K.In h ∧ (∀ (s : Shared) (u : Value), BindsTo s fd ⟨[u], []⟩ [(x, u)]) ∧ ∀ base : Heap, K.In base → base.Ns mainGlobals mg → Fd l.prog w K mg base (L2.CX l.prog w) k fa fd [x] (lift K w (dLaw n))) :
    PySem.W.WalkO q loose XP YP l.row.toRowW d [] (fun g us => PySem.call g us) := by
  refine Att.attach_call hn hdf fun w _ s₁ mg _ fa _ _ _ _ a vs ns G Y _ _ _ hmg hobj hints hlen hg => ?_
  obtain ⟨K, fd, KX, hb, hF⟩ := F w mg fa _ Y G.T.g hmg
  exact call_D KX G.T.g G.T.b G.T.builtins G.T.nolimit hg hr hF hb hlen hn2 hobj hints
end D
/-! D11: short words for printed derivations. -/
namespace D
open PySem PySem.Spec L2
structure Cal (P : Program) (w : World) (K : PySem.W.Frag) (mg : Str → Option Value) (base : Heap) (k : Nat) (x : Str) (ps : List Str) (st : Stmt) (dvs : List V) (d : DSp) (f : Addr) (fd : FuncData) : Prop where
  hm : mg x = some (.ref f)
  made : Made K f fd x x st dvs
  fn : Fd P w K mg base (L2.CX P w) k f fd ps (lift K w d)
section
variable {X : Cx} {F I0 : Hp} {x : Str} {pos : Pos}
theorem dv (i : Nat) (hN : X.N[i]? = some x := by rfl) (hv : Vis X.env.scope x := by first | exact Or.inl rfl | exact Or.inr (Or.inl rfl) | exact Or.inr (Or.inr rfl)) (hd : (x == ("__debug__" : Str)) = false := by decide) (hcd : (x == ("__classdict__" : Str)) = false := by decide) : DE F I0 X (.Name x pos) (TV i) := d_var hN hv hd hcd
theorem dvf (i : Nat) (hN : X.N[i]? = some x := by rfl) (hv : Vis X.env.scope x := by first | exact Or.inl rfl | exact Or.inr (Or.inl rfl) | exact Or.inr (Or.inr rfl)) (hd : (x == ("__debug__" : Str)) = false := by decide) (hcd : (x == ("__classdict__" : Str)) = false := by decide) : DE F I0 X (.Name x pos) (TF i) := d_frz hN hv hd hcd
/-- a constant of the module -/
def cOf : V → Option P
  | .non => some .non
  | .bl b => some (.bl b)
  | .int i => some (.int i)
  | _ => none
theorem cOf_rp {G : Gm} {I : Hp} {v : V} {p : P} (h : cOf v = some p) : RP G I p v := by
  unfold cOf at h
  split at h
  · cases h; rfl
  · cases h; rfl
  · cases h; rfl
  · cases h
theorem dg {v : V} {p : P} (h : ∃ u, X.mg x = some u ∧ RelV v u) (hp : cOf v = some p := by rfl) (hg : Gl X x := by rfl) (hd : (x == ("__debug__" : Str)) = false := by decide) : DE F I0 X (.Name x pos) (TC p) := by
  obtain ⟨u, hm, r⟩ := h
  exact d_glob hg hm r (fun _ _ => cOf_rp hp) hd
theorem dgs {s : Str} (h : ∃ u, X.mg x = some u ∧ RelV (.str s) u) (hp : (decide (s.length ≤ sizeLine) && PyData.strOk s) = true := by decide +kernel) (hg : Gl X x := by rfl) (hd : (x == ("__debug__" : Str)) = false := by decide) : DE F I0 X (.Name x pos) (TC (.str s)) := by
  obtain ⟨u, hm, r⟩ := h
  rw [Bool.and_eq_true] at hp
  exact d_glob hg hm r (fun _ _ => ⟨rfl, of_decide_eq_true hp.1, hp.2⟩) hd
theorem w_pt {e : Expr} {B : DB} (h : DW F I0 X e B) : DTs F I0 X e B := h.pt
end
/-! ### what the head finds -/
section
variable {mg : Str → Option Value} {K : PySem.W.Frag} {h : Heap}
theorem made0 {x : Str} {st : Stmt} {f : Addr} {oc : Value} {od an : Option Addr} {osl : Array (Option Value)} {kV doc pm cdv ct : Value} (X : K.In h) (G : h.Ns mainGlobals mg) (a : PySem.W.nsIn K mainGlobals x = some (some (.ref f)))
    (l : K.lookup f = some ⟨oc, od, .func (PySem.W.fnOf x x (defArgs st) (defBody st) (defScope st) .none kV doc pm an cdv ct), osl⟩) (c : PySem.W.codeIn K cdv x = true) (k : PySem.W.keepIn K (.ref f) = true) : ∃ f fd, Made K f fd x x st [] ∧ mg x = some (.ref f) :=
  ⟨f, _, ⟨⟨oc, od, .none, kV, doc, pm, an, cdv, ct, osl, rfl, l, c, .inl ⟨rfl, rfl⟩, .inl rfl⟩, k⟩, PySem.W.mg_of X G a⟩
theorem made1 {x : Str} {st : Stmt} {f T : Addr} {oc tc : Value} {od an td : Option Addr} {osl tsl : Array (Option Value)} {kV doc pm cdv ct : Value} {its : Array Value} {n : Nat} {dvs : List V} (X : K.In h) (G : h.Ns mainGlobals mg) (a : PySem.W.nsIn K mainGlobals x = some (some (.ref f)))
    (l : K.lookup f = some ⟨oc, od, .func (PySem.W.fnOf x x (defArgs st) (defBody st) (defScope st) (.ref T) kV doc pm an cdv ct), osl⟩) (c : PySem.W.codeIn K cdv x = true) (k : PySem.W.keepIn K (.ref f) = true)
    (t : K.lookup T = some ⟨tc, td, .seq its n, tsl⟩) (r : Vals dvs its.toList) (hd : dvs ≠ []) : ∃ f fd, Made K f fd x x st dvs ∧ mg x = some (.ref f) :=
  ⟨f, _, ⟨⟨oc, od, .ref T, kV, doc, pm, an, cdv, ct, osl, rfl, l, c, .inr ⟨hd, T, _, its.toList, n, rfl, t, by simp, r⟩, .inl rfl⟩, k⟩, PySem.W.mg_of X G a⟩
theorem cst {x : Str} {u : Value} {v : V} (X : K.In h) (G : h.Ns mainGlobals mg) (a : PySem.W.nsIn K mainGlobals x = some (some u)) (r : RelV v u) : ∃ u, mg x = some u ∧ RelV v u := ⟨u, PySem.W.mg_of X G a, r⟩
theorem Made.eq {f : Addr} {fd fd' : FuncData} {x : Str} {st : Stmt} {dvs : List V} (h : Made K f fd x x st dvs) (h' : Made K f fd' x x st dvs) : fd = fd' := by
  obtain ⟨_, _, _, _, _, _, _, _, _, _, _, l, _⟩ := h.ex
  obtain ⟨_, _, _, _, _, _, _, _, _, _, _, l', _⟩ := h'.ex
  rw [l] at l'; cases l'; rfl
/-- the law's def, its deep promise from its own denotation -/
theorem law_of {P : Program} {w : World} {fa : Addr} {k n : Nat} {x p : Str} {st : Stmt} {d : DSp} (f_law : ∃ f fd, Made K f fd x x st [] ∧ mg x = some (.ref f)) (hfa : mg x = some (.ref fa))
    (c : ∀ base : Heap, ∃ f fd, Cal P w K mg base k x [p] st [] d f fd) (hb : ∀ {f : Addr} {fd : FuncData} (M : Made K f fd x x st []) (s : Shared) (u : Value), BindsTo s fd ⟨[u], []⟩ [(p, u)])
    (hd : ∀ as S Q E, dLaw n as S Q E → d as S Q noX) : ∃ fd : FuncData, (∀ (s : Shared) (u : Value), BindsTo s fd ⟨[u], []⟩ [(p, u)]) ∧ ∀ base : Heap, Fd P w K mg base (L2.CX P w) k fa fd [p] (lift K w (dLaw n)) := by
  obtain ⟨f, fd, M, hm⟩ := f_law
  obtain rfl : f = fa := by rw [hfa] at hm; cases hm; rfl
  refine ⟨fd, hb M, fun base => ?_⟩
  obtain ⟨f', fd', C⟩ := c base
  have hm' := C.hm
  rw [hm] at hm'; cases hm'
  obtain rfl := M.eq C.made
  refine ⟨fun xs H Q E ⟨F, S, I, as, Q0, X0, h1, h2, h3, _⟩ => ?_, fun A outer s H args us xs Q E g r e b rv ⟨F, S, I, as, Q0, X0, h1, h2, h3, h4, h5⟩ => C.fn.run A outer s H args us xs Q E g r e b rv ⟨F, S, I, as, Q0, noX, h1, h2, hd _ _ _ _ h3, h4, fun _ _ _ _ _ _ _ _ z => z.elim⟩⟩
  rw [← h2.length]
  obtain ⟨ns, rfl, _⟩ := h3
  rfl
end
end D
/-! D12: statements never reached; a name stored within a test (:=); x = [comprehension]. -/
namespace D
open PySem PySem.Spec L2
section
variable {X : Cx} {F I0 : Hp} {pos : Pos} {st : Stmt} {t u : DS}
/-- never reached -/
def SNever : DS := fun _ _ _ => False
theorem s_never : DSt F I0 X st SNever := ps_never.weak fun D σ H ⟨_, _, _, _, _, q, _⟩ => q.elim
/-- tests that store a name -/
def trTw (G : Gm) (T : DB) : TTw := fun σ H Q => ∃ (ρ : Env) (S : Store) (I : Hp) (Q0 : Bool → Env → Store → Prop), Rel G ρ S I σ H ∧ T ρ S Q0 ∧
  ∀ b σ' H' ρ' S' I', Le I I' → Rel G ρ' S' I' σ' H' → Q0 b ρ' S' → Q b σ' H'
abbrev DTw (F I0 : Hp) (X : Cx) (e : Expr) (T : DB) : Prop := PTw X e (trTw (gm F I0 X) T)
theorem _root_.L2.PTw.weak {X : Cx} {e : Expr} {t t' : TTw} (h : PTw X e t) (k : ∀ σ H Q, t' σ H Q → t σ H Q) : PTw X e t' := ⟨fun p s σ H Q I q => h.run p s σ H Q I (k _ _ _ q)⟩
/-- (x := e) op f -/
def BW (i : Nat) (d : R → R → Env → Store → K1 → Prop) (ta tb : DT) : DB := fun ρ S Q => ta ρ S fun a ρ1 S1 => match a with
  | .v p => tb (ρ1.set i (.v p)) S1 fun b ρ2 S2 => d (.v p) b ρ2 S2 fun z => match z with
    | .bl c => Q c ρ2 S2
    | _ => False
  | .loc _ => False
/-- x := e, its truth -/
def BWt (i : Nat) (ta : DT) : DB := fun ρ S Q => ta ρ S fun a ρ1 S1 => match a with
  | .v p => match truD (ρ1.set i (.v p)) S1 (.v p) with
    | some c => Q c (ρ1.set i (.v p)) S1
    | none => False
  | .loc _ => False
theorem bw_cmp {i : Nat} {x : Str} {e f : Expr} {op : CmpOp} {d : R → R → Env → Store → K1 → Prop} {Ta Tb : DT} {p1 p2 : Pos} (hN : X.N.Nodup) (hi : X.N[i]? = some x) (hx : Loc X.env.scope x) (ho : Op2 X (compareOp op) d) (ha : DE F I0 X e Ta) (hb : DE F I0 X f Tb) (hm : behindInMarks op f = false)
    (hf : X.fn x = true ∨ X.env.scope.names.lookup x = some .local := by first | exact .inl rfl | exact .inr rfl | assumption) : DTw F I0 X (.Compare (.NamedExpr (.Name x p1) e p2) [op] [f] pos) (BW i d Ta Tb) := by
  refine (ptw_cmp (ho.r F I0) (pew_named hN hi hx (pew_of ha) hf) hb hm).weak fun σ H Q ⟨ρ, S, I, Q0, R, q, post⟩ => ?_
  refine ⟨ρ, S, I, _, R, q, fun x H1 r ρ1 S1 I1 l1 R1 rr q1 => ?_⟩
  split at q1
  · rename_i p
    refine ⟨ρ1.set i (.v p), S1, I1, _, R1.put rr, q1, fun y H2 r2 ρ2 S2 I2 l2 R2 rr2 q2 => ?_⟩
    refine ⟨ρ2, S2, I2, _, .v p, r2, _, R2, RP.mono l2 _ _ rr, rr2, q2, fun z H' z' I' l R' rz k => ?_⟩
    split at k
    · cases rz
      exact ⟨_, rfl, post _ _ _ _ _ _ (l1.trans (l2.trans l)) R' k⟩
    · exact k.elim
  · exact q1.elim
theorem bw_tru {i : Nat} {x : Str} {e : Expr} {Ta : DT} {p1 p2 : Pos} (hN : X.N.Nodup) (hi : X.N[i]? = some x) (hx : Loc X.env.scope x) (ha : DE F I0 X e Ta)
    (hf : X.fn x = true ∨ X.env.scope.names.lookup x = some .local := by first | exact .inl rfl | exact .inr rfl | assumption) : DTw F I0 X (.NamedExpr (.Name x p1) e p2) (BWt i Ta) := by
  refine (ptw_truth (pew_named hN hi hx (pew_of ha) hf)).weak fun σ H Q ⟨ρ, S, I, Q0, R, q, post⟩ => ?_
  refine ⟨ρ, S, I, _, R, q, fun x H1 r ρ1 S1 I1 l1 R1 rr q1 => ?_⟩
  split at q1
  · rename_i p
    split at q1
    · rename_i c e
      have R2 := R1.put (i := i) rr
      exact ⟨c, R2.tru (r := .v p) rr e, post _ _ _ _ _ _ l1 R2 q1⟩
    · exact q1.elim
  · exact q1.elim
theorem s_ifW {c : Expr} {a b : List Stmt} {B : DB} (hc : DTw F I0 X c B) (ha : DSs F I0 X a t) (hb : DSs F I0 X b u) : DSt F I0 X (.If c a b pos) (SIf B t u) := by
  refine (ps_ifW hc ha hb).weak fun D σ H ⟨ρ, S, I, D0, R, q, h1, h2, h3, h4⟩ => ?_
  refine ⟨ρ, S, I, _, R, q, fun c σ' H' ρ' S' I' l R' q => ?_⟩
  cases c with
  | true => exact trS.at l R' q h1 h2 h3 h4
  | false => exact trS.at l R' q h1 h2 h3 h4
/-- a, b = x, y with plain local names -/
theorem s_par {i j : Nat} {x y : Str} {a b : Expr} {A : DA} {px py pt : Pos} {kt k2 : Nat} {pt2 : Pos} (hc : X.calm = true) (hN : X.N.Nodup) (hi : X.N[i]? = some x) (hj : X.N[j]? = some y) (hij : i ≠ j)
    (hx : X.env.scope.names.lookup x = some .local) (hy : X.env.scope.names.lookup y = some .local) (ha : DAs F I0 X [a, b] A) (hw : swappedStores [.Tuple [.Name x px, .Name y py] kt pt] (.Tuple [a, b] k2 pt2) X.env = pure (some [x, y]))
    (hs : swapsWithSole [.Tuple [.Name x px, .Name y py] kt pt] (.Tuple [a, b] k2 pt2) pos.line X.env = pure false := by rfl) : DSt F I0 X (.Assign [.Tuple [.Name x px, .Name y py] kt pt] (.Tuple [a, b] k2 pt2) pos) (SAsg (TTup A) (GT 2 (GCons (GN i) (GCons (GN j) GNil)))) := by
  refine (ps_par hc hN hi hj hij hx hy ha hw hs).weak fun D σ H ⟨ρ, S, I, D0, R, q, h1, h2, h3, h4⟩ => ?_
  refine ⟨ρ, S, I, _, R, q, fun xs H' rs ρ' S' I' l R' rr q => ?_⟩
  split at q
  · rename_i ps e
    obtain ⟨hz, hl, q⟩ := q
    have t := vals_of rr e
    match ps, hl with
    | [p1, p2], _ =>
      obtain ⟨x1, _, rfl, r1, x2, _, rfl, r2, rfl⟩ := t
      exact ⟨x1, x2, rfl, h1 _ _ _ _ _ l ((R'.put r1).put r2) q⟩
  · exact q.elim
end
end D
/-! D13: plain lemmas that the laws share: slices, texts of data, equality, comprehensions. -/
namespace D
open PySem PySem.Spec L2

theorem szL {n : Nat} (h : n ≤ 10000000) : n ≤ sizeLine := by rw [sizeLine_eq]; omega
/-! ### slices -/
theorem cutLen {α : Type} (xs : List α) (lo hi : Option Int) : (cut xs lo hi).length ≤ xs.length := by
  unfold cut; rw [List.length_take, List.length_drop]; omega
theorem cutMem {α : Type} {xs : List α} {lo hi : Option Int} {x : α} (h : x ∈ cut xs lo hi) : x ∈ xs := List.mem_of_mem_drop (List.mem_of_mem_take h)
theorem cutMap {α β : Type} (f : α → β) (xs : List α) (lo hi : Option Int) : cut (xs.map f) lo hi = (cut xs lo hi).map f := by
  unfold cut; rw [List.length_map, List.map_take, List.map_drop]
theorem cutHi {α : Type} (xs : List α) {i : Int} (h : 0 ≤ i) : cut xs none (some i) = xs.take i.toNat := by
  have e1 : HT.sIx xs.length 0 none = 0 := rfl
  have e2 : HT.sIx xs.length xs.length (some i) = min i.toNat xs.length := by
    show (if i < 0 then (i + (xs.length : Int)).toNat else min i.toNat xs.length) = _
    rw [if_neg (by omega)]
  unfold cut
  rw [e1, e2, List.drop_zero, Nat.sub_zero]
  by_cases c : i.toNat ≤ xs.length
  · rw [Nat.min_eq_left c]
  · rw [Nat.min_eq_right (by omega), List.take_length, List.take_of_length_le (by omega)]
theorem cutLo {α : Type} (xs : List α) {i : Int} (h : 0 ≤ i) : cut xs (some i) none = xs.drop i.toNat := by
  have e1 : HT.sIx xs.length 0 (some i) = min i.toNat xs.length := by
    show (if i < 0 then (i + (xs.length : Int)).toNat else min i.toNat xs.length) = _
    rw [if_neg (by omega)]
  have e2 : HT.sIx xs.length xs.length none = xs.length := rfl
  unfold cut
  rw [e1, e2]
  by_cases c : i.toNat ≤ xs.length
  · rw [Nat.min_eq_left c, List.take_of_length_le (by rw [List.length_drop] <;> omega)]
  · rw [Nat.min_eq_right (by omega), List.drop_length, List.drop_eq_nil_of_le (by omega), Nat.sub_self, List.take_zero]
theorem atNat {α : Type} {xs : List α} {i : Int} (h0 : 0 ≤ i) (h1 : i < xs.length) : atI xs i = some (xs[i.toNat]'(by omega)) := by
  unfold atI ixN
  rw [if_pos h0, if_pos h1]
  simp [show i.toNat < xs.length by omega]
theorem atIn {xs : List P} {i : Int} (h0 : 0 ≤ i) (h1 : i < xs.length) : ∃ p, atI xs i = some p ∧ p ∈ xs := ⟨_, atNat h0 h1, List.getElem_mem _⟩

/-! ### equality -/
mutual
theorem eqRefl : ∀ p : P, p.isE = true → PyData.eqv p.dat p.dat = true
  | .non, _ => by simp only [P.dat, PyData.eqv]
  | .bl b, _ => by simp only [P.dat, PyData.eqv]; exact beq_self_eq_true _
  | .int i, _ => by simp only [P.dat, PyData.eqv]; exact beq_self_eq_true _
  | .str s, _ => by simp only [P.dat, PyData.eqv]; exact beq_self_eq_true _
  | .tup xs, h => by simp only [P.dat, PyData.eqv]; exact eqReflAll xs h
  | .lst xs, h => by simp only [P.dat, PyData.eqv]; exact eqReflAll xs h
  | .dct _, h => nomatch h
  | .scr _, h => nomatch h
  | .row _, h => nomatch h
  | .ty _, h => nomatch h
  | .ref _, h => nomatch h
  | .ins _ _, h => nomatch h
  | .cl _, h => nomatch h
theorem eqReflAll : ∀ ps : List P, P.isEs ps = true → PyData.eqvAll (P.dats ps) (P.dats ps) = true
  | [], _ => by simp only [P.dats, PyData.eqvAll]
  | p :: ps, h => by
    have h' : p.isE = true ∧ P.isEs ps = true := by simpa [P.isEs] using h
    simp only [P.dats, PyData.eqvAll, eqRefl p h'.1, eqReflAll ps h'.2, Bool.and_self]
end
theorem eqSelf {p : P} (h : p.isE = true) : eqP p p = true := eqRefl p h

/-! ### texts of data -/
/-- it can be shown: n levels at most, B signs at most -/
structure Sh (n B : Nat) (p : P) : Prop where
  e : p.isE = true
  d : p.dep ≤ n
  s : p.dat.showable = true
  l : p.dat.shown.length ≤ B
theorem Sh.mono {n B n' B' : Nat} {p : P} (h : Sh n B p) (hn : n ≤ n') (hB : B ≤ B') : Sh n' B' p := ⟨h.e, Nat.le_trans h.d hn, h.s, Nat.le_trans h.l hB⟩
theorem Sh.int {i : Int} {k : Nat} (hk : 0 < k) (h : i.natAbs.log2 < k) (k2 : k ≤ 1920) : Sh 0 (k + 1) (.int i) := by
  refine ⟨rfl, Nat.le_refl 0, ?_, ?_⟩
  · show decide (i.natAbs.log2 < 1920) = true
    exact decide_eq_true (show i.natAbs.log2 < 1920 by omega)
  · have := int_text_length_le hk h
    show (Str.ofString (toString i)).length ≤ k + 1
    rw [ofString_length]; exact this
theorem Sh.bl {b : Bool} : Sh 0 5 (.bl b) := ⟨rfl, Nat.le_refl 0, rfl, by cases b <;> decide +kernel⟩
theorem Sh.non : Sh 0 4 .non := ⟨rfl, Nat.le_refl 0, rfl, by decide +kernel⟩
theorem Sh.str {s : Str} : Sh 0 (reprText s).length (.str s) := ⟨rfl, Nat.le_refl 0, rfl, Nat.le_refl _⟩
theorem joinLen (B : Nat) : ∀ ts : List Str, (∀ t ∈ ts, t.length ≤ B) → (Str.join ", " ts).length ≤ ts.length * (B + 2)
  | [], _ => by simp [Str.join, Str.length, Str.empty]
  | [x], h => by have := h x (List.mem_cons_self ..); show x.length ≤ 1 * (B + 2); omega
  | x :: y :: r, h => by
    have ih := joinLen B (y :: r) fun t ht => h t (List.mem_cons_of_mem _ ht)
    have hx := h x (List.mem_cons_self ..)
    show ((x ++ ", ") ++ Str.join ", " (y :: r)).length ≤ _
    rw [cat_len, cat_len, show ((", " : Str)).length = 2 from rfl, List.length_cons, Nat.succ_mul]
    omega
theorem fromLen (B : Nat) : ∀ (ts : List Str) (k : Nat) (acc : Str), (∀ t ∈ ts, t.length ≤ B) → (textFrom k acc ts).length ≤ acc.length + ts.length * (B + 2)
  | [], _, acc, _ => by show acc.length ≤ _; omega
  | t :: r, k, acc, h => by
    have ih := fromLen B r (k + 1) (acc ++ (if k > 0 then ", " else "" : String) ++ t) fun u hu => h u (List.mem_cons_of_mem _ hu)
    have ht := h t (List.mem_cons_self ..)
    show (textFrom (k + 1) _ _).length ≤ _
    rw [cat_len, cat_len] at ih
    have e : (Str.ofString (if k > 0 then ", " else "")).length ≤ 2 := by split <;> decide +kernel
    rw [List.length_cons, Nat.succ_mul]
    omega
theorem shAll {n B : Nat} : ∀ {xs : List P}, (∀ p ∈ xs, Sh n B p) → P.isEs xs = true ∧ PyData.depthAll (P.dats xs) ≤ n ∧ PyData.showableAll (P.dats xs) = true ∧ (∀ t ∈ PyData.shownAll (P.dats xs), t.length ≤ B) ∧ (PyData.shownAll (P.dats xs)).length = xs.length
  | [], _ => ⟨rfl, Nat.zero_le _, rfl, fun t ht => (nomatch ht), rfl⟩
  | p :: ps, h => by
    obtain ⟨h1, h2, h3, h4, h5⟩ := shAll (xs := ps) fun q hq => h q (List.mem_cons_of_mem _ hq)
    have hp := h p (List.mem_cons_self ..)
    refine ⟨by rw [P.isEs, hp.e, h1]; rfl, ?_, ?_, fun t ht => ?_, by simp [P.dats, PyData.shownAll, h5]⟩
    · have := hp.d; show max p.dat.depth _ ≤ n; exact Nat.max_le.mpr ⟨this, h2⟩
    · show (p.dat.showable && _) = true; rw [hp.s, h3]; rfl
    · rcases List.mem_cons.mp ht with rfl | ht
      · exact hp.l
      · exact h4 t ht
theorem Sh.tup {n B : Nat} {xs : List P} (h : ∀ p ∈ xs, Sh n B p) : Sh (n + 1) (3 + xs.length * (B + 2)) (.tup xs) := by
  obtain ⟨h1, h2, h3, h4, h5⟩ := shAll h
  refine ⟨h1, Nat.succ_le_succ h2, h3, ?_⟩
  have := joinLen B _ h4
  rw [h5] at this
  show ((("(" : Str) ++ Str.join ", " _) ++ (if _ then ",)" else ")" : String)).length ≤ _
  rw [cat_len, cat_len, show (("(" : Str)).length = 1 from rfl]
  have e : ∀ b : Bool, (Str.ofString (if b = true then ",)" else ")")).length ≤ 2 := by decide +kernel
  have := e ((PyData.shownAll (P.dats xs)).length == 1)
  omega
theorem Sh.lst {n B : Nat} {xs : List P} (h : ∀ p ∈ xs, Sh n B p) : Sh (n + 1) (3 + xs.length * (B + 2)) (.lst xs) := by
  obtain ⟨h1, h2, h3, h4, h5⟩ := shAll h
  refine ⟨h1, Nat.succ_le_succ h2, h3, ?_⟩
  have := fromLen B _ 0 "[" h4
  rw [h5] at this
  show (textFrom 0 "[" _ ++ ("]" : Str)).length ≤ _
  rw [cat_len, show (("]" : Str)).length = 1 from rfl]
  have e : (("[" : Str)).length = 1 := rfl
  omega
theorem Sh.repr {n B : Nat} {p : P} {r : R} {ρ : Env} {S : Store} {k : K1} (h : Sh n B p) (hr : asD ρ S r = some p) (hn : n ≤ 50) (hB : B ≤ 10000000) (hk : k (.str p.dat.shown)) : reprD [r] ρ S k := by
  unfold reprD
  simp only [hr]
  exact ⟨h.e, Nat.le_trans h.d hn, h.s, Nat.le_trans h.l (szL hB), hk⟩
end D
/-! D14: x = [comprehension]. -/
namespace D
open PySem PySem.Spec L2
section
variable {X : Cx} {F I0 : Hp} {pos spos : Pos}
/-- the new list becomes the slot's own, or frozen -/
theorem frz_asg {T : DNw} {i : Nat} {D : Ends} {σ : L2.St} {H : Hp} (h : trS (gm F I0 X) (SAsg (TFz T) (GN i)) D σ H) : trN (gm F I0 X) T σ H fun x H1 => gName i x σ H1 D.nx := by
  obtain ⟨ρ, S, I, D0, R, q, h1, h2, h3, h4⟩ := h
  refine ⟨ρ, S, I, _, R, q, fun A H' o u ρ' S' I' l hF R' ho q => ?_⟩
  split at q
  · rename_i p e
    obtain ⟨l2, R2⟩ := R'.heldI hF
    have rp : RP (gm F I0 X) (upd I' A u) p (.ref A) := (ho.gm (G' := gm F I0 X) rfl).frz e R'.held.1 l2
    exact h1 _ _ _ _ _ (l.trans l2) (R2.put rp) q
  · exact q.elim
theorem s_lc {i : Nat} {y : Str} {py : Pos} {elt tg iter : Expr} {ifs : List Expr} {scope : Scope} {ow : List (Str × Nat)} {src : DSrc} {g : DG} {tt : DB} {te : DT} {T : DS} (hc : X.calm = true) (hN : X.N.Nodup) (hy : X.N[i]? = some y) (hyl : X.env.scope.names.lookup y = some .local)
    (hsw : swapsWith (.ListComp elt [⟨tg, iter, ifs, 0⟩] scope pos) (some (.Name y py)) spos.line X.env = pure true) (hi : DI F I0 X tg iter src) (ok : BlkOk X.N X.env.scope scope ow)
    (hg : ∀ (F : Hp) (s : Shared) (H : Hp) (C : Addr) (cl : List (Str × Addr)) (fp : List Addr), DGt F I0 (X.blk s H scope (compEnvC scope cl C X.env) fp) (own (ow.map (·.2))) tg g)
    (ht : ∀ (F : Hp) (s : Shared) (H : Hp) (C : Addr) (cl : List (Str × Addr)) (fp : List Addr), DTT F I0 (X.blk s H scope (compEnvC scope cl C X.env) fp) ifs tt)
    (he : ∀ (F : Hp) (s : Shared) (H : Hp) (C : Addr) (cl : List (Str × Addr)) (fp : List Addr), DE F I0 (X.blk s H scope (compEnvC scope cl C X.env) fp) elt te) (hs : ∀ x, foldedSetIterable iter X.env x = pure x := by intro _; rfl)
    (hT : ∀ D σ H, trS (gm F I0 X) T D σ H → trN (gm F I0 X) (NLc src g tt te (ow.map (·.2))) σ H fun x H1 => gName i x σ H1 D.nx) :
    DSt F I0 X (.Assign [.Name y py] (.ListComp elt [⟨tg, iter, ifs, 0⟩] scope pos) spos) T :=
  (ps_setLc (g := gAny (gm F I0 X) (ow.map (·.2)) g) (tt := bAny (gm F I0 X) tt) (te := eAny (gm F I0 X) te) hc hN hy hyl hsw hi ok
    (fun s H C cl fp => ⟨fun p s' σ H v u Q J r ⟨F', q⟩ => (hg F' s _ C cl fp).run p s' σ H v u Q J r q⟩)
    (fun s H C cl fp => ⟨fun p s' σ H Q J ⟨F', q⟩ => (ht F' s _ C cl fp).run p s' σ H Q J q⟩)
    (fun s H C cl fp => ⟨fun p s' σ H Q J ⟨F', q⟩ => (he F' s _ C cl fp).run p s' σ H Q J q⟩) hs).weak fun D σ H h => lc_tr σ H _ (hT D σ H h)
end
end D
/-! D16: own classes: attributes, methods, properties, instances made. -/
namespace D
open PySem PySem.Spec L2

/-! ### what is known of a callee -/
def CallOk (P : Program) (w : World) (K : PySem.W.Frag) (mg : Str → Option Value) (base : Heap) (k : Nat) (g : Addr) (d : DSp) (ds : List D.P) : Prop :=
  ∃ fd ps dV dU, Binds K fd ps dU ∧ DfR K ds dV dU ∧ Fd P w K mg base (L2.CX P w) k g fd ps (lift K w d)
/-- .. with keywords -/
def CallKOk (P : Program) (w : World) (K : PySem.W.Frag) (mg : Str → Option Value) (base : Heap) (k : Nat) (g : Addr) (d : DSp) (ks : List Str) (n : Nat) (src : List Arg) (ds : List D.P) : Prop :=
  ∃ fd ps dV dU, KB K fd ps ks n src dU ∧ DfR K ds dV dU ∧ Fd P w K mg base (L2.CX P w) k g fd ps (lift K w d)
section
variable {X : Cx} {F I0 : Hp} {k : Nat} {g : Addr} {d : DSp} {ds : List D.P} {A : Around} {pins : List (Addr × Obj)} {σ τ : L2.St} {H : Hp} {s : Shared} {us ws : List Value} {xs zs : List V} {as bs : List D.P} {ρ : Env} {S : Store} {I : Hp} {Q : D.P → Store → Prop} {W : DXr} {W0 : WX} {R0 : Result → Shared → Prop} {ks : List Str} {n : Nat} {src : List Arg}
theorem CallOk.run (C : CallOk X.prog X.w X.K X.mg X.base k g d ds) (hg : A.guards = some []) (hr : Room k A) (hf : A.frames = X.A.frames) (hw : ∀ c dd H', trW (gm F I0 X) W c dd σ H' → W0 c dd τ H')
    (J : L2.Inv X pins τ H s) (rv : Vals xs us) (R : Rel (gm F I0 X) ρ S I σ H) (rp : RPs (gm F I0 X) I as xs) (q : d (as ++ ds) S Q fun n fs S' => W n fs ρ S')
    (hok : ∀ x H' p S' I' u s', Le I I' → Rel (gm F I0 X) ρ S' I' σ H' → RP (gm F I0 X) I' p x → Q p S' → L2.Inv X pins τ H' s' → RelV x u → R0 (.ok (.ret u)) s')
    (her : ∀ e s', L2.XE X W0 e s' → R0 (.error e) s') : codeAny (model X.prog X.w) A (.call (.ref g) ⟨us, []⟩) R0 s := by
  obtain ⟨fd, ps, dV, dU, hb, hd, Fn⟩ := C
  have rp2 := rp.append (hd.rp (gm F I0 X) I rfl)
  have rv2 := rv.append hd.rel
  have hl : (us ++ dU).length = ps.length := by rw [← rv2.length]; exact len_of Fn R rp2 q
  exact run_at2 Fn hg hr hf hw (hb s us J.kIn hl) J rv2 R rp2 q hok her
theorem CallKOk.run {m : Nat} (C : CallKOk X.prog X.w X.K X.mg X.base k g d ks n src ds) (hg : A.guards = some []) (hr : Room k A) (hf : A.frames = X.A.frames) (hw : ∀ c dd H', trW (gm F I0 X) W c dd σ H' → W0 c dd τ H')
    (J : L2.Inv X pins τ H s) (rv : Vals xs us) (rz : Vals zs ws) (R : Rel (gm F I0 X) ρ S I σ H) (rp : RPs (gm F I0 X) I as xs) (rq : RPs (gm F I0 X) I bs zs) (hn : as.length = n) (hm : bs.length = m) (hml : ks.length = m) (q : d (arr as bs ds src) S Q fun n fs S' => W n fs ρ S')
    (hok : ∀ x H' p S' I' u s', Le I I' → Rel (gm F I0 X) ρ S' I' σ H' → RP (gm F I0 X) I' p x → Q p S' → L2.Inv X pins τ H' s' → RelV x u → R0 (.ok (.ret u)) s')
    (her : ∀ e s', L2.XE X W0 e s' → R0 (.error e) s') : codeAny (model X.prog X.w) A (.call (.ref g) ⟨us, ks.zip ws⟩) R0 s := by
  obtain ⟨fd, ps, dV, dU, hb, hd, Fn⟩ := C
  exact run_at2 Fn hg hr hf hw (hb.to s us ws J.kIn (by rw [← rv.length, ← rp.length]; exact hn) (by rw [← rz.length, ← rq.length, hml]; exact hm)) J (arr_vals rv rz hd.rel src) R (arr_rps rp rq (hd.rp (gm F I0 X) I rfl) src) q hok her
end
/-- of all items of a list -/
def AllT {α : Type} (p : α → Prop) : List α → Prop
  | [] => True
  | a :: r => p a ∧ AllT p r
theorem AllT.at {β : Type} {p : Str × β → Prop} {n : Str} {b : β} : ∀ {l : List (Str × β)}, AllT p l → l.lookup n = some b → p (n, b)
  | [], _, e => by cases e
  | (m, c) :: r, h, e => by
    rw [List.lookup_cons] at e
    cases q : n == m with
    | true => rw [q] at e; cases e; rw [eq_of_beq q]; exact h.1
    | false => rw [q] at e; exact AllT.at h.2 e

/-! ### attributes -/
/-- the instance that a result is: its class's name, its fields -/
def insD (S : Store) : R → Option (Str × List (Str × P))
  | .v (.ins n fs) => some (n, fs)
  | .v (.ref a) => match S a with
    | some (.ins n fs) => some (n, fs)
    | _ => none
  | _ => none
/-- what a name is at a class: a field, a constant, a property -/
inductive AK where
  | fld | con (p : P) | prop (d : DSp)
def attD (f : Str) (tb : List (Str × AK)) (r : R) (ρ : Env) (S : Store) (Q : DQ) : Prop := match insD S r with
  | some (n, fs) => match tb.lookup n with
    | some .fld => match fs.lookup f with
      | some p => Q (.v p) ρ S
      | none => False
    | some (.con p) => fs.lookup f = none ∧ Q (.v p) ρ S
    | some (.prop d) => match r with
      | .v p => d [p] S (fun q S2 => Q (.v q) ρ S2) noX
      | .loc _ => False
    | none => False
  | none => False
def TAtt (f : Str) (tb : List (Str × AK)) (T : DT) : DT := fun ρ S Q => T ρ S fun r ρ1 S1 => attD f tb r ρ1 S1 Q
def AttOk (P : Program) (w : World) (K : PySem.W.Frag) (mg : Str → Option Value) (base : Heap) (k : Nat) (f n : Str) : AK → Prop
  | .fld => Cls K (cA K n) ∧ NoAttr K (cA K n) f
  | .con p => Cls K (cA K n) ∧ ∃ v u, Con K (cA K n) f v u ∧ ∀ G I, G.K = K → RP G I p v
  | .prop d => Cls K (cA K n) ∧ ∃ p g, PropOf K (cA K n) f p g ∧ CallOk P w K mg base k g d []
section
variable {X : Cx} {F I0 : Hp} {ρ : Env} {S : Store} {I : Hp} {σ τ : L2.St} {H : Hp} {n : Str} {fs : List (Str × P)} {r : D.R} {x : V}
theorem Rel.ins (R : Rel (gm F I0 X) ρ S I σ H) (rr : RR (gm F I0 X) I σ r x) (e : insD S r = some (n, fs)) : ∃ a dx gs, x = .ref a ∧ H a = some (.ins (cA X.K n) dx gs) ∧ RFs (gm F I0 X) I fs gs := by
  unfold insD at e
  split at e
  · cases e
    obtain ⟨a, dx, gs, rfl, h, t⟩ := rr
    exact ⟨a, dx, gs, rfl, R.sr.imm _ _ h, t⟩
  · split at e
    · rename_i e2
      cases e
      cases rr
      obtain ⟨⟨dx, gs, h, t⟩, _⟩ := R.sr.st _ _ e2
      exact ⟨_, dx, gs, rfl, h, t⟩
    · cases e
  · cases e
end
section
variable {X : Cx} {F I0 : Hp} {k : Nat} {f : Str} {tb : List (Str × AK)} {e : Expr} {pos : Pos} {T : DT}
theorem d_att (he : DE F I0 X e T) (h : AllT (fun q => AttOk X.prog X.w X.K X.mg X.base k f q.1 q.2) tb) (hg : X.A.guards = some []) (hr : Room (k + 1) X.A) (hb : attributeBase e f X.env (eval e X.env) = eval e X.env := by rfl) : DE F I0 X (.Attribute e f pos) (TAtt f tb T) := by
  refine ⟨fun pins s σ H Q J h0 => ?_⟩
  obtain ⟨ρ, S, I, Q0, R, q, post⟩ := h0
  refine attr_of hb (thn (he.run pins s σ H (fun x H1 => ∃ r ρ1 S1 I1, Le I I1 ∧ Rel (gm F I0 X) ρ1 S1 I1 σ H1 ∧ RR (gm F I0 X) I1 σ r x ∧ attD f tb r ρ1 S1 Q0) J ⟨ρ, S, I, _, R, q, fun x H' r ρ' S' I' l R' rr q => ⟨r, ρ', S', I', l, R', rr, q⟩⟩) fun u s1 ⟨x, H1, J1, rx, r, ρ1, S1, I1, l, R1, rr, q⟩ => ?_)
  unfold attD at q
  split at q
  · rename_i n fs e1
    obtain ⟨a, dx, gs, rfl, ea, t⟩ := R1.ins rr e1
    obtain rfl : u = Value.ref a := rx; split at q
    · rename_i e2
      obtain ⟨c, na⟩ := h.at e2
      split at q
      · rename_i p e3
        obtain ⟨y, hy, rp⟩ := t.lookup e3
        exact getattr_ok J1 ea c na hy fun u s2 J2 ru => ⟨y, H1, J2, ru, post _ _ (.v p) _ _ _ l R1 rp q⟩
      · exact q.elim
    · rename_i p e2
      obtain ⟨c, y, u, con, rp⟩ := h.at e2
      exact getcon_ok J1 ea c con (t.lookup_none q.1) fun s2 J2 => ⟨y, H1, J2, con.rel, post _ _ (.v p) _ _ _ l R1 (rp _ _ rfl) q.2⟩
    · rename_i d e2
      obtain ⟨c, p, g, hp, C⟩ := h.at e2
      split at q
      · rename_i p0
        obtain ⟨mA, O, _, _, _, _⟩ := ins_get J1.hok ea
        obtain ⟨od, J3, _⟩ := O.look
        obtain ⟨rest, hrec⟩ := hp.rec_; have hc : (PySem.W.clsIn X.K (cA X.K n)).isSome = true := by
          obtain ⟨cd, hc, _⟩ := PySem.W.any_some c.hd; rw [hc]; rfl
        refine PySem.W.get_bind J1.kIn J3 (PySem.W.plainGet_of (c.get f)).1 (PySem.W.findObj_data hc hp.at_ hp.get hp.tak) (PySem.W.plainGet_of (c.get f)).2 (wpAny_call (PySem.W.prop_get (s := { s1 with toks := s1.toks + 1 }) J1.kIn hrec ?_))
        refine codeAny_mono (CallOk.run (A := X.A.in1) (us := [.ref a]) (xs := [.ref a]) (as := [p0]) (R0 := fun r s' => match r with
          | .ok (.ret u) => ∃ v H', L2.Inv X pins σ H' s' ∧ RelV v u ∧ Q v H'
          | .ok _ => False
          | .error _ => False) (W := noW) (W0 := fun _ _ _ _ => False) (σ := σ) C hg hr.in1 rfl (fun _ _ _ z => trW.no z) (J1.tok (s1.toks + 1)) (.cons rfl .nil) R1 ⟨.ref a, [], rfl, rr, rfl⟩ q
          (fun x H' p S' I' u s' l2 R' rp' q' J' ru => ⟨x, H', J', ru, post x H' (.v p) ρ1 S' I' (l.trans l2) R' rp' q'⟩) fun e s' z => (XE.no z).elim) fun r s' hq => ?_
        cases r with
        | error er => exact hq.elim
        | ok fl =>
          cases fl with
          | ret u =>
            obtain ⟨v, H', I3, rv, q3⟩ := hq
            show wpAny _ _ (handedOut u) _ _ _; rw [PySem.W.handedOut_of (handed_of rv)]
            (exact wpAny_pure ⟨v, H', I3, rv, q3⟩)
          | next => exact hq.elim
          | brk => exact hq.elim
          | cont => exact hq.elim
      · exact q.elim
    · exact q.elim
  · exact q.elim
end
end D
/-! D17: calls of methods, of classes, of class methods, of instances. -/
namespace D
open PySem PySem.Spec L2

/-! ### the arguments of a call, positional and by keywords -/
abbrev DA2 := Env → Store → (List R → List R → Env → Store → Prop) → Prop
def A2p (A : DA) : DA2 := fun ρ S Q => A ρ S fun rs ρ1 S1 => Q rs [] ρ1 S1
def A2k (A Ak : DA) : DA2 := fun ρ S Q => A ρ S fun rs ρ1 S1 => Ak ρ1 S1 fun qs ρ2 S2 => Q rs qs ρ2 S2
structure DCw (F I0 : Hp) (X : Cx) (pos : Pos) (es : List Expr) (kws : List Keyword) (ks : List Str) (B : DA2) : Prop where
  plain : ((backTo pos (starEach es X.env)).any (·.1) || (backToKw pos (keywordEach kws X.env)).any (·.1.isNone)) = false
  run : ∀ (f : Value) (pins : List (Addr × Obj)) (s : Shared) (σ : L2.St) (H : Hp) (ρ : Env) (S : Store) (I : Hp) (Q0 : List R → List R → Env → Store → Prop) (Q : Args → Shared → Prop), L2.Inv X pins σ H s → Rel (gm F I0 X) ρ S I σ H → B ρ S Q0 →
    (∀ us ws xs zs rs qs ρ1 S1 I1 H1 s1, Le I I1 → L2.Inv X pins σ H1 s1 → Rel (gm F I0 X) ρ1 S1 I1 σ H1 → Vals xs us → Vals zs ws → RRs (gm F I0 X) I1 σ rs xs → RRs (gm F I0 X) I1 σ qs zs → Q0 rs qs ρ1 S1 → Q ⟨us, ks.zip ws⟩ s1) →
    wpAny (model X.prog X.w) X.A (evalArgs f true (backTo pos (starEach es X.env)) (backToKw pos (keywordEach kws X.env))) Q X.xe s
section
variable {X : Cx} {F I0 : Hp} {pos : Pos} {e : Expr} {es : List Expr} {kws : List Keyword} {ks : List Str} {A Ak : DA}
theorem cw_0 : DCw F I0 X pos [] [] [] (A2p ANil) := ⟨by rfl, fun f pins s σ H ρ S I Q0 Q J R q fin => PyProof.Rows.evalArgs_nil3 (fin [] [] [] [] [] [] ρ S I H s Le.refl J R .nil .nil rfl rfl q)⟩
theorem cw_p (ha : DAs F I0 X (e :: es) A) (he : starEach (e :: es) X.env = (false, eval e X.env) :: starEach es X.env := by rfl) (hpl : (backTo pos (starEach es X.env)).any (·.1) = false := by rfl) : DCw F I0 X pos (e :: es) [] [] (A2p A) := by
  refine ⟨by rw [he]; show ((false || (backTo pos (starEach es X.env)).any (·.1)) || false) = false; rw [hpl]; rfl, fun f pins s σ H ρ S I Q0 Q J R q fin => ?_⟩
  have h := ha.run pos pins s σ H (fun xs H1 => ∃ rs ρ1 S1 I1, Le I I1 ∧ Rel (gm F I0 X) ρ1 S1 I1 σ H1 ∧ RRs (gm F I0 X) I1 σ rs xs ∧ Q0 rs [] ρ1 S1) J ⟨ρ, S, I, _, R, q, fun xs H' rs ρ' S' I' l R' rr q => ⟨rs, ρ', S', I', l, R', rr, q⟩⟩
  rw [he] at h ⊢
  exact PySem.Calls.evalArgs_plain (thn h fun us s1 ⟨xs, H1, J1, rx, rs, ρ1, S1, I1, l, R1, rr, q⟩ => fin us [] xs [] rs [] ρ1 S1 I1 H1 s1 l J1 R1 rx .nil rr rfl q)
theorem cw_k0 (hkw : DK F I0 X kws Ak) (hall : (backToKw pos (keywordEach kws X.env)).all (·.1.isSome) = true := by rfl) (hks : (backToKw pos (keywordEach kws X.env)).filterMap (·.1) = ks := by rfl)
    (hpl : ((backTo pos (starEach [] X.env)).any (·.1) || (backToKw pos (keywordEach kws X.env)).any (·.1.isNone)) = false := by rfl) : DCw F I0 X pos [] kws ks (A2k ANil Ak) := by
  refine ⟨hpl, fun f pins s σ H ρ S I Q0 Q J R q fin => PyProof.Rows.evalArgs_kw2_nil hall ?_⟩
  rw [hks]
  exact thn (hkw.run pos pins s σ H (fun zs H1 => ∃ qs ρ1 S1 I1, Le I I1 ∧ Rel (gm F I0 X) ρ1 S1 I1 σ H1 ∧ RRs (gm F I0 X) I1 σ qs zs ∧ Q0 [] qs ρ1 S1) J ⟨ρ, S, I, _, R, q, fun xs H' rs ρ' S' I' l R' rr q => ⟨rs, ρ', S', I', l, R', rr, q⟩⟩)
    fun ws s1 ⟨zs, H1, J1, rz, qs, ρ1, S1, I1, l, R1, rq, q⟩ => fin [] ws [] zs [] qs ρ1 S1 I1 H1 s1 l J1 R1 .nil rz rfl rq q
theorem cw_k (ha : DAs F I0 X (e :: es) A) (hkw : DK F I0 X kws Ak) (hall : (backToKw pos (keywordEach kws X.env)).all (·.1.isSome) = true := by rfl) (hks : (backToKw pos (keywordEach kws X.env)).filterMap (·.1) = ks := by rfl)
    (he : starEach (e :: es) X.env = (false, eval e X.env) :: starEach es X.env := by rfl) (hpl : ((backTo pos (starEach (e :: es) X.env)).any (·.1) || (backToKw pos (keywordEach kws X.env)).any (·.1.isNone)) = false := by rfl) : DCw F I0 X pos (e :: es) kws ks (A2k A Ak) := by
  refine ⟨hpl, fun f pins s σ H ρ S I Q0 Q J R q fin => PyProof.Rows.evalArgs_kw2 hall ?_ he⟩
  rw [hks]
  refine thn (ha.run pos pins s σ H (fun xs H1 => ∃ rs ρ1 S1 I1, Le I I1 ∧ Rel (gm F I0 X) ρ1 S1 I1 σ H1 ∧ RRs (gm F I0 X) I1 σ rs xs ∧ Ak ρ1 S1 fun qs ρ2 S2 => Q0 rs qs ρ2 S2) J ⟨ρ, S, I, _, R, q, fun xs H' rs ρ' S' I' l R' rr q => ⟨rs, ρ', S', I', l, R', rr, q⟩⟩)
    fun us s1 ⟨xs, H1, J1, rx, rs, ρ1, S1, I1, l, R1, rr, q1⟩ => ?_
  exact thn (hkw.run pos pins s1 σ H1 (fun zs H2 => ∃ qs ρ2 S2 I2, Le I1 I2 ∧ Rel (gm F I0 X) ρ2 S2 I2 σ H2 ∧ RRs (gm F I0 X) I2 σ qs zs ∧ Q0 rs qs ρ2 S2) J1 ⟨ρ1, S1, I1, _, R1, q1, fun xs H' rs ρ' S' I' l R' rr q => ⟨rs, ρ', S', I', l, R', rr, q⟩⟩)
    fun ws s2 ⟨zs, H2, J2, rz, qs, ρ2, S2, I2, l2, R2, rq, q2⟩ => fin us ws xs zs rs qs ρ2 S2 I2 H2 s2 (l.trans l2) J2 R2 rx rz (RRs.mono l2 rr) rq q2
end

/-! ### what follows a call -/
def finM (W : DXr) (d : DSp) (n m : Nat) (src : List Arg) (ds as bs : List P) (ρ : Env) (S : Store) (Q : P → Store → Prop) : Prop := as.length = n ∧ bs.length = m ∧ d (arr as bs ds src) S Q fun c fs S' => W c fs ρ S'
/-- what of a callee stands at a class's name: its denotation, where its parameters come from, its defaults -/
abbrev MT := List (Str × DSp × List Arg × List P)
def MetOk (P : Program) (w : World) (K : PySem.W.Frag) (mg : Str → Option Value) (base : Heap) (k : Nat) (m : Str) (ks : List Str) (n : Nat) (q : Str × DSp × List Arg × List D.P) : Prop :=
  Cls K (cA K q.1) ∧ ∃ g, Meth K (cA K q.1) m g ∧ CallKOk P w K mg base k g q.2.1 ks n q.2.2.1 q.2.2.2
/-- o.m(..) -/
def TMeth (m : Str) (tb : MT) (n mm : Nat) (W : DXr) (T : DT) (B : DA2) : DT := fun ρ S Q => T ρ S fun r ρ1 S1 => match insD S1 r with
  | some (c, fs) => fs.lookup m = none ∧ match tb.lookup c, r with
    | some (d, src, ds), .v p => B ρ1 S1 fun rs qs ρ2 S2 => match vals rs, vals qs with
      | some as, some bs => finM W d n mm src ds (p :: as) bs ρ2 S2 fun q S3 => Q (.v q) ρ2 S3
      | _, _ => False
    | _, _ => False
  | none => False
/-- o(..), o an instance -/
def TInst (tb : MT) (n mm : Nat) (W : DXr) (T : DT) (B : DA2) : DT := fun ρ S Q => T ρ S fun r ρ1 S1 => match insD S1 r with
  | some (c, fs) => match tb.lookup c, r with
    | some (d, src, ds), .v p => B ρ1 S1 fun rs qs ρ2 S2 => match vals rs, vals qs with
      | some as, some bs => (∃ fs2, insD S2 r = some (c, fs2)) ∧ finM W d n mm src ds (p :: as) bs ρ2 S2 fun q S3 => Q (.v q) ρ2 S3
      | _, _ => False
    | _, _ => False
  | none => False
/-- C.m(..), m a class method, C the class that T gives -/
def TCm (tb : MT) (n mm : Nat) (W : DXr) (T : DT) (B : DA2) : DT := fun ρ S Q => T ρ S fun r ρ1 S1 => match r with
  | .v (.cl c) => match tb.lookup c with
    | some (d, src, ds) => B ρ1 S1 fun rs qs ρ2 S2 => match vals rs, vals qs with
      | some as, some bs => finM W d n mm src ds (.cl c :: as) bs ρ2 S2 fun q S3 => Q (.v q) ρ2 S3
      | _, _ => False
    | none => False
  | _ => False
def rem (S : Store) (a : Addr) : Store := fun b => if b = a then none else S b
theorem rem_same {S : Store} {a : Addr} : rem S a a = none := if_pos rfl
theorem rem_ne {S : Store} {a b : Addr} (h : b ≠ a) : rem S a b = S b := if_neg h
theorem rem_ups {S : Store} {a : Addr} {o : SO} (h : S a = none) : rem (ups S a o) a = S := by
  funext b
  by_cases c : b = a
  · subst c; rw [rem_same, h]
  · rw [rem_ne c, ups_ne c]
/-- C(..): C the class that T gives -/
def NMk (tb : MT) (n mm : Nat) (W : DXr) (T : DT) (B : DA2) : DNw := fun ρ S Q => T ρ S fun r ρ0 S0 => match r with
  | .v (.cl c) => match tb.lookup c with
    | some (d, src, ds) => B ρ0 S0 fun rs qs ρ1 S1 => match vals rs, vals qs with
      | some as, some bs => ∀ a, S1 a = none → finM (fun n fs ρ S2 => W n fs ρ (rem S2 a)) d n mm src ds (.ref a :: as) bs ρ1 (ups S1 a (.ins c [])) fun v S2 => v = .non ∧ match S2 a with
        | some (.ins c' fs) => c' = c ∧ Q (.ins c fs) ρ1 (rem S2 a)
        | _ => False
      | _, _ => False
    | none => False
  | _ => False
def MkOk (P : Program) (w : World) (K : PySem.W.Frag) (mg : Str → Option Value) (base : Heap) (k : Nat) (ks : List Str) (n : Nat) (q : Str × DSp × List Arg × List D.P) : Prop :=
  ∃ g, Mk K (cA K q.1) g ∧ CallKOk P w K mg base k g q.2.1 ks n q.2.2.1 q.2.2.2
def CmOk (P : Program) (w : World) (K : PySem.W.Frag) (mg : Str → Option Value) (base : Heap) (k : Nat) (m : Str) (ks : List Str) (n : Nat) (q : Str × DSp × List Arg × List D.P) : Prop :=
  ∃ mc p g, ClX.CRead K (cA K q.1) mc ∧ ClX.CMet K (cA K q.1) mc m p g ∧ CallKOk P w K mg base k g q.2.1 ks n q.2.2.1 q.2.2.2
def InOk (P : Program) (w : World) (K : PySem.W.Frag) (mg : Str → Option Value) (base : Heap) (k : Nat) (ks : List Str) (n : Nat) (q : Str × DSp × List Arg × List D.P) : Prop :=
  ∃ g, StX.CallO K (cA K q.1) g ∧ CallKOk P w K mg base k g q.2.1 ks n q.2.2.1 q.2.2.2
section
variable {G : Gm} {ρ : Env} {S : Store} {I : Hp} {σ : L2.St} {H : Hp} {a : Addr} {u : HO} {o : SO}
theorem Rel.newAny (R : Rel G ρ S I σ H) (h : H a = none) : Rel G ρ S I σ (upd H a u) := (R.toF h).drop (R.unused h).1
theorem Rel.unS (R : Rel G ρ S I σ H) (e : S a = some o) (hu : H a = some u) : Rel (G.up a u) ρ (rem S a) I σ H ∧ OkO G I H a o ∧ G.F a = none := by
  obtain ⟨k1, k2⟩ := R.sr.st a o e
  have hF : G.F a = none := by
    cases q : G.F a with
    | none => rfl
    | some v => have := (R.sr.fi a v q).2; rw [e] at this; cases this
  refine ⟨⟨⟨R.sr.i0, R.sr.imm, fun b w h => ?_, fun b w h => ?_, fun b w h => ?_⟩, R.len, fun i p h => ?_, fun i q h => ?_, R.ap⟩, k1, hF⟩
  · by_cases c : b = a
    · subst c; rw [show (G.up b u).F b = some u from upd_same] at h; cases h; exact hu
    · rw [show (G.up a u).F b = G.F b from upd_ne c] at h; exact R.sr.fr b w h
  · by_cases c : b = a
    · subst c; exact ⟨k2, rem_same⟩
    · rw [show (G.up a u).F b = G.F b from upd_ne c] at h; rw [rem_ne c]; exact R.sr.fi b w h
  · by_cases c : b = a
    · subst c; rw [rem_same] at h; cases h
    · rw [rem_ne c] at h
      obtain ⟨h1, h2⟩ := R.sr.st b w h
      exact ⟨h1.gm (G' := G.up a u) rfl, h2⟩
  · obtain ⟨x, h1, h2⟩ := R.vs i p h
    exact ⟨x, h1, RP.gm (G.up a u) h2 rfl⟩
  · obtain ⟨b, h1, h2, h3, h4, h5⟩ := R.ow i q h
    have c : b ≠ a := by rintro rfl; rw [e] at h4; cases h4
    exact ⟨b, h1, h2.gm (G' := G.up a u) rfl, h3, by rw [rem_ne c]; exact h4, by rw [show (G.up a u).F b = G.F b from upd_ne c]; exact h5⟩
end
theorem make_guards {A : Around} {C : Addr} {us : List Value} {kw : List (Str × Value)} (h : A.guards = some []) : (A.under (.builtin "type.__call__" ⟨.ref C :: us, kw⟩)).guards = some [] := by
  show pushGuards (Code.guards (.builtin "type.__call__" ⟨.ref C :: us, kw⟩)) A.guards = some []
  rw [h]; rfl
theorem make_frames {A : Around} {C : Addr} {us : List Value} {kw : List (Str × Value)} : (A.under (.builtin "type.__call__" ⟨.ref C :: us, kw⟩)).frames = A.frames := by
  show pushEnvs (Code.envs (.builtin "type.__call__" ⟨.ref C :: us, kw⟩)) A.frames = A.frames
  cases A.frames <;> rfl
section
variable {X : Cx} {F I0 : Hp} {k : Nat} {m : Str} {tb : MT} {ks : List Str} {n mm : Nat} {W : DXr} {o e : Expr} {es : List Expr} {kws : List Keyword} {T : DT} {B : DA2} {pos apos : Pos} {pl : Sem Bool}
theorem d_meth (he : DE F I0 X o T) (hB : DCw F I0 X pos es kws ks B) (h : AllT (fun q => MetOk X.prog X.w X.K X.mg X.base k m ks n q) tb) (hg : X.A.guards = some []) (hr : Room k X.A) (tk : L2.Takes X (trW (gm F I0 X) W)) (hml : ks.length = mm := by rfl)
    (ht : eval (.Call (.Attribute o m apos) es kws pos) X.env = (do
      let ov ← eval o X.env
      standAt apos.atName
      let (fv, more) ← holding [ov] (getMethod ov m pl)
      callWith pos fv more (backTo pos (starEach es X.env)) (backToKw pos (keywordEach kws X.env))) := by rfl) : DE F I0 X (.Call (.Attribute o m apos) es kws pos) (TMeth m tb n mm W T B) := by
  refine ⟨fun pins s σ H Q J h0 => ?_⟩
  obtain ⟨ρ, S, I, Q0, R, q, post⟩ := h0
  refine PySem.W.methodCall_KW (pl := pl) (thn (he.run pins s σ H (fun x H1 => ∃ r ρ1 S1 I1, Le I I1 ∧ Rel (gm F I0 X) ρ1 S1 I1 σ H1 ∧ RR (gm F I0 X) I1 σ r x ∧ _) J ⟨ρ, S, I, _, R, q, fun x H' r ρ' S' I' l R' rr q => ⟨r, ρ', S', I', l, R', rr, q⟩⟩) fun u s1 ⟨x, H1, J1, rx, r, ρ1, S1, I1, l, R1, rr, q⟩ => ?_) ht
  split at q
  · rename_i c fs e1
    obtain ⟨a, dx, gs, rfl, ea, t⟩ := R1.ins rr e1
    obtain rfl : u = Value.ref a := rx; obtain ⟨hl, q⟩ := q
    split at q
    · rename_i d src ds p e2
      obtain ⟨cl, g, M, C⟩ := h.at e2
      refine getmeth_ok J1 ea cl M (t.lookup_none hl) ?_
      refine PySem.W.callWith_of (P := X.K.In) hB.plain (PySem.W.keeps_K M.kp) (hB.run _ pins s1 σ H1 ρ1 S1 I1 _ _ J1 R1 q fun us ws xs zs rs qs ρ2 S2 I2 H2 s2 l2 J2 R2 rx rz rr2 rq q2 => ⟨J2.kIn, ?_⟩)
      split at q2
      · rename_i as bs e3 e4
        obtain ⟨n1, n2, q2⟩ := q2
        exact wpAny_call (codeAny_mono (CallKOk.run (R0 := fun r s' => match r with
            | .ok (.ret u) => EP X pins σ Q u s'
            | .ok _ => False
            | .error e => X.xe e s') (us := .ref a :: us) (xs := .ref a :: xs) (as := p :: as) (W0 := trW (gm F I0 X) W) C hg hr rfl (fun _ _ _ z => z) J2 (.cons rfl rx) rz R2 ⟨.ref a, xs, rfl, RP.mono l2 _ _ rr, vals_of rr2 e3⟩ (vals_of rq e4) n1 n2 hml q2
          (fun x H' p S' I' u s' l3 R' rp' q' J' ru => ⟨x, H', J', ru, post x H' (.v p) _ _ _ (l.trans (l2.trans l3)) R' rp' q'⟩) fun e s' z => tk e s' z) fun r s' hq => by
          cases r with
          | error e => exact hq
          | ok fl => cases fl with
            | ret u => exact hq
            | next => exact hq.elim
            | brk => exact hq.elim
            | cont => exact hq.elim)
      · exact q2.elim
    · exact q.elim
  · exact q.elim
/-- the class that T gives is called -/
theorem d_mk (hT : PE X (.Name m apos) (tr (gm F I0 X) T)) (hB : DCw F I0 X pos es kws ks B) (h : AllT (fun q => MkOk X.prog X.w X.K X.mg X.base k ks n q) tb) (hg : X.A.guards = some []) (hr : Room (k + 1) X.A) (tk : L2.Takes X (trW (gm F I0 X) W)) (hml : ks.length = mm := by rfl) :
    DN F I0 X (.Call (.Name m apos) es kws pos) (NMk tb n mm W T B) := by
  refine ⟨fun pins s σ H Q J h0 => ?_⟩
  obtain ⟨ρ, S, I, Q0, R, q, post⟩ := h0
  refine wpAny_Call_Name_kw (thn (hT.run pins s σ H (fun x H1 => ∃ r ρ1 S1 I1, Le I I1 ∧ Rel (gm F I0 X) ρ1 S1 I1 σ H1 ∧ RR (gm F I0 X) I1 σ r x ∧ _) J ⟨ρ, S, I, _, R, q, fun x H' r ρ' S' I' l R' rr q => ⟨r, ρ', S', I', l, R', rr, q⟩⟩) fun u s1 ⟨x, H1, J1, rx, r, ρ1, S1, I1, l, R1, rr, q⟩ => ?_)
  split at q
  · rename_i c
    obtain rfl : x = V.ref (cA X.K c) := rr
    obtain rfl : u = Value.ref (cA X.K c) := rx
    split at q
    · rename_i d src ds e2
      obtain ⟨g, M, C⟩ := h.at e2
      refine PySem.W.callWith_of (P := X.K.In) hB.plain (PySem.W.keeps_K M.kp) (hB.run _ pins s1 σ H1 ρ1 S1 I1 _ _ J1 R1 q fun us ws xs zs rs qs ρ2 S2 I2 H2 s2 l2 J2 R2 rx rz rr2 rq q2 => ⟨J2.kIn, ?_⟩)
      split at q2
      · rename_i as bs e3 e4
        have n1 : H2 (s2.heap.objs.size + 1) = none := J2.hok.fresh (Nat.le_succ _)
        have n0 : H2 s2.heap.objs.size = none := J2.hok.fresh (Nat.le_refl _)
        have ne : s2.heap.objs.size + 1 ≠ s2.heap.objs.size := Nat.ne_of_gt (Nat.lt_succ_self _)
        have J3 := Inv.made (C := cA X.K c) J2
        obtain ⟨hs, R3⟩ := (R2.newAny (u := .own (s2.heap.objs.size + 1)) n0).newSt (p := s2.heap.objs.size + 1) (o := .ins c []) (u := .ins (cA X.K c) s2.heap.objs.size []) (by rw [upd_ne ne]; exact n1) ⟨_, [], upd_same, rfl⟩
        obtain ⟨m1, m2, q2⟩ := q2 _ hs
        refine wpAny_call (make_map (f := g) J2.kIn M.makes M.init (beq_iff_eq.mp M.fn) ?_)
        refine codeAny_mono (CallKOk.run (R0 := fun r s' => match r with
            | .ok (.ret u) => u = .none ∧ EP X pins σ Q (.ref (s2.heap.objs.size + 1)) s'
            | .ok _ => False
            | .error e => X.xe e s') (us := .ref (s2.heap.objs.size + 1) :: us) (xs := .ref (s2.heap.objs.size + 1) :: xs) (as := .ref (s2.heap.objs.size + 1) :: as) (W := fun n fs ρ S' => W n fs ρ (rem S' (s2.heap.objs.size + 1))) (W0 := trW (gm F I0 X) W) C (make_guards hg) (hr.make _ us (ks.zip ws)) make_frames
          (fun c0 dd H' z => by
            obtain ⟨n, fs, ρ, S', I', z1, z2, z3, z4⟩ := z
            refine ⟨n, fs, ρ, rem S' (s2.heap.objs.size + 1), I', z1, ?_, z3, z4⟩
            cases e5 : S' (s2.heap.objs.size + 1) with
            | none =>
              have : rem S' (s2.heap.objs.size + 1) = S' := by
                funext b
                by_cases cb : b = s2.heap.objs.size + 1
                · subst cb; rw [rem_same, e5]
                · exact rem_ne cb
              rw [this]; exact z2
            | some o5 =>
              obtain ⟨u5, h5⟩ := (z2.sr.st _ _ e5).1.there
              obtain ⟨y1, y2, y3⟩ := z2.unS e5 h5
              exact y1.drop y3) J3 (.cons rfl rx) rz R3 ⟨.ref (s2.heap.objs.size + 1), xs, rfl, rfl, RPs.gm (gm F I0 X) (vals_of rr2 e3) rfl⟩ (vals_of rq e4) m1 m2 hml q2
          (fun x H' p S' I' u s' l3 R' rp' q' J' ru => ?_) fun e s' z => tk e s' z) fun r s' hq => by
          cases r with
          | error e => exact hq
          | ok fl => cases fl with
            | ret u => exact hq
            | next => exact hq.elim
            | brk => exact hq.elim
            | cont => exact hq.elim
        obtain ⟨rfl, q'⟩ := q'
        cases rp'
        cases ru
        refine ⟨rfl, ?_⟩
        split at q'
        · rename_i c' fs e5
          obtain ⟨rfl, q'⟩ := q'
          obtain ⟨u5, h5⟩ := (R'.sr.st _ _ e5).1.there
          obtain ⟨y1, y2, y3⟩ := R'.unS e5 h5
          exact ⟨.ref (s2.heap.objs.size + 1), H', J', rfl, post _ _ _ _ _ _ _ (l.trans (l2.trans l3)) y3 y1 y2 q'⟩
        · exact q'.elim
      · exact q2.elim
    · exact q.elim
  · exact q.elim
end
end D
/-! D18: own classes: class methods, constants of a class, instances called, fields stored, special methods. -/
namespace PySem.W
open Builtin PyProof.Rows PySem PySem.Calls
section
variable {prog : Program} {w : World} {A : Around} {E : Value → Shared → Prop} {s : Shared} {K : Frag} {x C f : Addr} {ox : Obj} {od : Option Obj} {b tb : Value}
theorem d_oneInst {h : Heap} {M : Model} (X : K.In h) (I : InstAt h x ox C od) (hm : subIn K (.ref C) (.type "object") = some true) : Looks M h (isInstance (.ref x) (.type "object")) true :=
  I.type.andThen (looks_subIn X hm)
theorem d_ifBoundB {M : Model} {name : Str} {id : String} {args : List Value} {Q : Option Value → Shared → Prop} (X : K.In s.heap) (I : InstAt s.heap x ox C od) (hs : findIn K (.ref C) name = some (some (.builtin id))) (hb : bindSpecial (.builtin id) (.ref x) = pure (.builtin id, [.ref x]))
    (h : wpAny M A (call (.builtin id) (.ref x :: args)) (fun v => Q (some v)) E s) : wpAny M A (callSpecialIfBound? (.ref x) name args) Q E s := by
  simp only [callSpecialIfBound?, bindSpecialIfBound?]; refine wpAny_holding (wpAny_bind (wpAny_bind (wpAny_bind (I.type.here ((looks_findIn X hs).here ?_)))))
  refine wpAny_bind (wpAny_askSetting (wpAny_ite ?_)); have fin : wpAny M A (call (.builtin id) ([.ref x] ++ args) >>= fun v => pure (some v)) Q E s := wpAny_bind (wpAny_mono h (fun v s' h' => wpAny_pure h') fun _ _ h' => h')
  rw [hb]
  split
  · exact wpAny_bind (wpAny_pure (wpAny_pure (by exact fin)))
  · exact wpAny_tryCatch (wpAny_bind (wpAny_pure (wpAny_pure (by exact fin))))
/-- x != b by the class's own __eq__ -/
theorem d_ne {Q : Value → Shared → Prop} (hu : A.units + 2 < cLine) (X : K.In s.heap) (I : InstAt s.heap x ox C od) (hb : Looks (model prog w) s.heap (typeOf b) tb) (hn : notFirst K C tb = true)
    (he : findIn K (.ref C) "__eq__" = some (some (.ref f))) (hf : isFn K (.ref f) = true) (hne : findIn K (.ref C) "__ne__" = some (some (.builtin "object.__ne__"))) (hm : subIn K (.ref C) (.type "object") = some true)
    (h : wpAny (model prog w) A.in1 (call (.ref f) [.ref x, b]) (fun v s' => ∃ r, v = .bool r ∧ Q (.bool (!r)) s') E s) : wpAny (model prog w) A (richCompare .NotEq (.ref x) b) Q E s := by
  have body : wpAny (model prog w) A.in1 (Builtin.«object.__ne__» ⟨[.ref x, b], []⟩) (fun fin s' => match fin with
      | .done f => wants (fun v s' => v ≠ .notImplemented ∧ Q v s') E (.ok f) s'
      | .again c' => c'.quiet = true ∧ codeAny (model prog w) A c' (wants (fun v s' => v ≠ .notImplemented ∧ Q v s') E) s') (fun e s' => wants (fun v s' => v ≠ .notImplemented ∧ Q v s') E (.error e) s') s := by
    have hu1 : A.in1.units < cLine := by show A.units + 1 < cLine; omega
    obtain ⟨hh, g, d, t, os⟩ := s
    unfold Builtin.«object.__ne__»; repeat (first
      | with_reducible refine wpAny_cRoomFor hu1 ?_
      | (refine wpAny_bind (m := callSpecialIfBound? (.ref x) (Str.ofString "__eq__") [b])
          (ifBound_K X I he hf (wpAny_mono h (fun r s' hr => by
            obtain ⟨b, rfl, hq⟩ := hr
            have hq : Value.bool (!b) ≠ .notImplemented ∧ Q (.bool (!b)) s' := ⟨(fun z => nomatch z), hq⟩
            repeat (first | exact wpAny_pure hq | exact hq | exact wpAny_truthy_bool hq | (refine wpAny_bind (m := truthy (.bool _)) (wpAny_truthy_bool ?_)) | wp_step)) fun _ _ e => e)))
      | wp_step)
  have cl : wpAny (model prog w) A (call (.builtin "object.__ne__") [.ref x, b]) (fun v s' => v ≠ .notImplemented ∧ Q v s') E s :=
    wpAny_call (codeAny_call_builtin PySem.F.cmp_object.ne.plain PySem.F.cmpEntry_ne (check_slot PySem.F.cmpKind_ne PySem.F.cmpSplit_ne (d_oneInst X I hm) (PySem.F.cmpArgs_ne _ _) body))
  have one : wpAny (model prog w) A (tryCompare (.ref x) "__ne__" b) (fun r s' => ∃ v, r = some v ∧ Q v s') E s := by
    unfold tryCompare
    refine wpAny_bind (d_ifBoundB X I hne (PySem.F.cmp_object.ne.bind _) (wpAny_mono (Q := fun v s' => v ≠ .notImplemented ∧ Q v s') cl (fun v s' hv => ?_) fun _ _ e => e))
    cases v <;> first | exact (hv.1 rfl).elim | exact wpAny_pure ⟨_, rfl, hv.2⟩
  unfold richCompare
  simp only [oneThing_ref]
  refine wpAny_holding (wpAny_bind (wpAny_cRoomFor (by omega) ?_))
  rw [cmpInfo_NotEq]
  refine wpAny_bind (I.type.here (wpAny_bind (hb.here ?_))); split
  · rename_i q
    have no : subIn K tb (.ref C) = some false := by
      rcases (Bool.or_eq_true_iff.mp hn) with y | y
      · (rw [beq_iff_eq.mp y] at q; simp at q)
      · exact beq_iff_eq.mp y
    refine wpAny_bind ((looks_subIn X no).here ?_); simp only [Bool.false_eq_true, if_false]
    refine wpAny_bind (wpAny_mono one (fun r s' z => ?_) fun _ _ e => e); obtain ⟨v, rfl, hq⟩ := z
    exact wpAny_pure hq
  · refine wpAny_bind (wpAny_pure ?_); simp only [Bool.false_eq_true, if_false]
    refine wpAny_bind (wpAny_mono one (fun r s' z => ?_) fun _ _ e => e); obtain ⟨v, rfl, hq⟩ := z
    exact wpAny_pure hq
end
end PySem.W
namespace D
open PySem PySem.Spec L2

/-! ### special methods that change nothing -/
abbrev SpT := List (Str × DSp)
def SpOk (P : Program) (w : World) (K : PySem.W.Frag) (mg : Str → Option Value) (base : Heap) (k : Nat) (m : Str) (q : Str × DSp) : Prop :=
  ∃ g, PySem.W.findIn K (.ref (cA K q.1)) m = some (some (.ref g)) ∧ PySem.W.isFn K (.ref g) = true ∧ PySem.W.fnIn K g = true ∧ CallOk P w K mg base k g q.2 []
def spD (tb : SpT) (r : R) (S : Store) (more : List P) (k : K1) : Prop := match insD S r, r with
  | some (c, _), .v p => match tb.lookup c with
    | some d => d (p :: more) S (fun q S' => S' = S ∧ k q) noX
    | none => False
  | _, _ => False
section
variable {X : Cx} {F I0 : Hp} {k : Nat} {tb : SpT} {m : Str} {pins : List (Addr × Obj)} {σ τ : L2.St} {H : Hp} {s : Shared} {us : List Value} {ρ : Env} {S : Store} {I : Hp} {Q : VK} {r : R} {x : V} {v : Value} {more : List P} {ys : List V} {kk : K1}
theorem sp_run {A : Around} {g : Addr} {d : DSp} {as : List P} {xs : List V} {R0 : Value → Shared → Prop} {E : Value → Shared → Prop} (C : CallOk X.prog X.w X.K X.mg X.base k g d []) (hg : A.guards = some []) (hr : Room k A) (hf : A.frames = X.A.frames) (J : L2.Inv X pins τ H s) (R : Rel (gm F I0 X) ρ S I σ H)
    (rv : Vals xs us) (rp : RPs (gm F I0 X) I as xs) (q : d (as ++ []) S (fun q S' => S' = S ∧ kk q) noX)
    (hok : ∀ y H' p I' u s', Le I I' → Rel (gm F I0 X) ρ S I' σ H' → RP (gm F I0 X) I' p y → kk p → L2.Inv X pins τ H' s' → RelV y u → R0 u s') : wpAny (model X.prog X.w) A (call (.ref g) us) R0 E s :=
  wpAny_call (codeAny_mono (CallOk.run (R0 := fun r s' => match r with
      | .ok (.ret u) => R0 u s'
      | .ok _ => False
      | .error _ => False) (W := noW) (W0 := fun _ _ _ _ => False) C hg hr hf (fun _ _ _ z => trW.no z) J rv R rp q (fun x H' p S' I' u s' l R' rp' q' J' ru => by obtain ⟨rfl, q'⟩ := q'; exact hok x H' p I' u s' l R' rp' q' J' ru) fun e s' z => (XE.no z).elim) fun r s' hq => by
    cases r with
    | error e => exact hq.elim
    | ok fl => cases fl with
      | ret u => exact hq
      | next => exact hq.elim
      | brk => exact hq.elim
      | cont => exact hq.elim)
/-- the instance as the library wants it -/
theorem ins_at (J : L2.Inv X pins τ H s) {a dx C : Addr} {gs : List (Str × V)} (e : H a = some (.ins C dx gs)) : ∃ od, PySem.W.InstAt s.heap a (PySem.W.instObj C dx) C od := by
  obtain ⟨mA, O, _⟩ := ins_get J.hok e
  obtain ⟨od, J2, _⟩ := O.look
  exact ⟨_, J2⟩
theorem spD_of (R : Rel (gm F I0 X) ρ S I σ H) (rr : RR (gm F I0 X) I σ r x) (rv : RelV x v) (q : spD tb r S more kk) : ∃ c d p a dx gs, r = .v p ∧ tb.lookup c = some d ∧ x = .ref a ∧ v = .ref a ∧ H a = some (.ins (cA X.K c) dx gs) ∧ RP (gm F I0 X) I p x ∧ d (p :: more) S (fun q S' => S' = S ∧ kk q) noX := by
  unfold spD at q
  split at q
  · rename_i c fs p e1
    split at q
    · rename_i d e2
      obtain ⟨a, dx, gs, rfl, ea, t⟩ := R.ins rr e1
      cases rv
      exact ⟨c, d, p, a, dx, gs, rfl, e2, rfl, rfl, ea, rr, q⟩
    · exact q.elim
  · exact q.elim
theorem room_in1 (hr : Room (k + 1) X.A) : Room k X.A.in1 := hr.in1

/-- len(x) -/
def lenX (tb : SpT) : NOp := fun rs ρ S k => match rs with
  | [r] => match insD S r with
    | some _ => spD tb r S [] fun q => ∃ i : Int, q = .int i ∧ 0 ≤ i ∧ i < 2 ^ 63 ∧ k q
    | none => lenD rs ρ S k
  | _ => False
theorem n_lenX (h : AllT (fun q => SpOk X.prog X.w X.K X.mg X.base k "__len__" q) tb) (hg : X.A.guards = some []) (hr : Room (k + 1) X.A) : OpN X (.builtin "len") (lenX tb) := by
  intro F I0 pins s ρ S I σ τ H xs us rs kk Q J R rr rv q post
  unfold lenX at q
  split at q
  · rename_i r
    split at q
    · obtain ⟨x, _, rfl, h1, e⟩ := rr
      cases e
      obtain ⟨u, rfl, ru⟩ := vals1 rv
      obtain ⟨c, d, p, a, dx, gs, rfl, e2, rfl, rfl, ea, rp, q⟩ := spD_of R h1 ru q
      obtain ⟨g, s1, s2, s3, C⟩ := h.at e2
      obtain ⟨od, I2⟩ := ins_at J ea
      obtain ⟨m0, hF⟩ := J.fr
      refine PySem.W.len_K hF J.ok.mod.kin I2 s1 s2 (sp_run (xs := [.ref a]) (as := [p]) C hg hr.in1 rfl J R (.cons rfl .nil) ⟨_, [], rfl, rp, rfl⟩ q fun y H' p I' u s' l R' rp' q' J' ru => ?_)
      obtain ⟨i, rfl, i0, i1, kq⟩ := q'
      cases rp'
      obtain ⟨t, rfl⟩ := ru
      exact ⟨⟨i0, i1⟩, .int i, H', J'.tok _, ⟨_, rfl⟩, post _ _ _ _ l R' .mkI kq⟩
    · exact n_len F I0 pins s ρ S I σ τ H xs us _ kk Q J R rr rv q post
  · exact q.elim
/-- repr(x) -/
def reprX (tb : SpT) : NOp := fun rs ρ S k => match rs with
  | [r] => match insD S r with
    | some _ => spD tb r S [] fun q => ∃ t, q = .str t ∧ k q
    | none => reprD rs ρ S k
  | _ => False
theorem n_reprX (h : AllT (fun q => SpOk X.prog X.w X.K X.mg X.base k "__repr__" q) tb) (hg : X.A.guards = some []) (hr : Room (k + 1) X.A) : OpN X (.builtin "repr") (reprX tb) := by
  intro F I0 pins s ρ S I σ τ H xs us rs kk Q J R rr rv q post
  unfold reprX at q
  split at q
  · rename_i r
    split at q
    · obtain ⟨x, _, rfl, h1, e⟩ := rr
      cases e
      obtain ⟨u, rfl, ru⟩ := vals1 rv
      obtain ⟨c, d, p, a, dx, gs, rfl, e2, rfl, rfl, ea, rp, q⟩ := spD_of R h1 ru q
      obtain ⟨g, s1, s2, s3, C⟩ := h.at e2
      obtain ⟨od, I2⟩ := ins_at J ea
      obtain ⟨m0, hF⟩ := J.fr
      refine PySem.W.repr_K (by have := hr.units; show X.A.units + 1 < cLine; omega) hF J.ok.mod.kin I2 s1 s2 (sp_run (xs := [.ref a]) (as := [p]) C hg hr.in1 rfl J R (.cons rfl .nil) ⟨_, [], rfl, rp, rfl⟩ q fun y H' p I' u s' l R' rp' q' J' ru => ?_)
      obtain ⟨t, rfl, kq⟩ := q'
      obtain ⟨rfl, rp2⟩ := rp'
      obtain ⟨t, rfl⟩ := ru
      exact ⟨.str _, H', J', ⟨_, rfl⟩, post _ _ _ _ l R' (.mkS rp2.1 rp2.2) kq⟩
    · exact n_repr hr.units hg F I0 pins s ρ S I σ τ H xs us _ kk Q J R rr rv q post
  · exact q.elim
/-- str(x) -/
def strX (tb : SpT) : NOp := fun rs ρ S k => match rs with
  | [r] => match insD S r with
    | some _ => spD tb r S [] fun q => ∃ t, q = .str t ∧ k q
    | none => strD rs ρ S k
  | _ => False
theorem n_strX (h : AllT (fun q => SpOk X.prog X.w X.K X.mg X.base k "__str__" q) tb) (hg : X.A.guards = some []) (hr : Room (k + 2) X.A) : OpN X (.type "str") (strX tb) := by
  intro F I0 pins s ρ S I σ τ H xs us rs kk Q J R rr rv q post
  unfold strX at q
  split at q
  · rename_i r
    split at q
    · obtain ⟨x, _, rfl, h1, e⟩ := rr
      cases e
      obtain ⟨u, rfl, ru⟩ := vals1 rv
      obtain ⟨c, d, p, a, dx, gs, rfl, e2, rfl, rfl, ea, rp, q⟩ := spD_of R h1 ru q
      obtain ⟨g, s1, s2, s3, C⟩ := h.at e2
      obtain ⟨od, I2⟩ := ins_at J ea
      refine PySem.W.kso_call (by have := hr.units; show X.A.units + 1 + 1 < cLine; omega) J.kIn I2 s1 s2 (sp_run (xs := [.ref a]) (as := [p]) C hg hr.in1.in1 rfl J R (.cons rfl .nil) ⟨_, [], rfl, rp, rfl⟩ q fun y H' p I' u s' l R' rp' q' J' ru => ?_)
      obtain ⟨t, rfl, kq⟩ := q'
      obtain ⟨rfl, rp2⟩ := rp'
      obtain ⟨t, rfl⟩ := ru
      exact ⟨.str _, H', J', ⟨_, rfl⟩, post _ _ _ _ l R' (.mkS rp2.1 rp2.2) kq⟩
    · exact n_str F I0 pins s ρ S I σ τ H xs us _ kk Q J R rr rv q post
  · exact q.elim
end
/-! ### the type of a value -/
abbrev bT : List String := ["NoneType", "bool", "int", "str", "tuple", "dict", "list"]
/-- facts of the classes cs -/
def insB (K : PySem.W.Frag) (c : Str) : Bool := PySem.W.plainGet K (cA K c) Str.empty && (PySem.W.hasDictIn K (cA K c) && (PySem.W.plainOver K (cA K c) && (decide (PySem.W.findIn K (.ref (cA K c)) "__setattr__" = some (some (.builtin "object.__setattr__"))) &&
  (decide (PySem.W.findIn K (.ref (cA K c)) "__class__" = some (some (.builtin "object.__class__"))) && (decide (PySem.W.specialIn K (.builtin "object.__class__") "__get__" = some (some (.builtin "getset_descriptor.__get__"))) &&
  (decide (PySem.W.takesIn K (.builtin "object.__class__") = some true) && decide (PySem.W.mroIn K (cA K c) (.type "object") = some true)))))))
structure InsF (K : PySem.W.Frag) (c : Str) : Prop where
  cls : Cls K (cA K c)
  ha : PySem.W.findIn K (.ref (cA K c)) "__class__" = some (some (.builtin "object.__class__"))
  hg : PySem.W.specialIn K (.builtin "object.__class__") "__get__" = some (some (.builtin "getset_descriptor.__get__"))
  tkk : PySem.W.takesIn K (.builtin "object.__class__") = some true
  hm : PySem.W.mroIn K (cA K c) (.type "object") = some true
theorem insF_of {K : PySem.W.Frag} {c : Str} (h : insB K c = true) : InsF K c := by
  unfold insB at h
  simp only [Bool.and_eq_true, decide_eq_true_eq] at h; obtain ⟨h1, h2, h3, h4, h5, h6, h7, h8⟩ := h
  exact ⟨⟨h1, h2, h3, h4⟩, h5, h6, h7, h8⟩
section
variable {X : Cx} {F I0 : Hp} {ρ : Env} {S : Store} {I : Hp} {σ τ : L2.St} {H : Hp} {r : R} {x : V} {cs : List Str}
/-- its type: t among the built-in ones, or one of the classes cs -/
theorem Rel.tyX (R : Rel (gm F I0 X) ρ S I σ H) (hc : ∀ c ∈ cs, InsF X.K c) (rr : RR (gm F I0 X) I σ r x) : (∀ c fs, insD S r = some (c, fs) → c ∈ cs → TyX X.K H x (.ref (cA X.K c))) ∧ ∀ n, tyN ρ S r = some n → TyX X.K H x (.type n) ∧ n ∈ bT := by
  refine ⟨fun c fs e hm => ?_, fun n e => R.ty rr e⟩
  obtain ⟨a, dx, gs, rfl, ea, t⟩ := R.ins rr e
  have f := hc c hm
  exact .base (.ins ea f.cls f.ha f.hg f.tkk f.hm)
end
/-- isinstance with own classes: cs the classes that are asked for; sub: the classes of instances with those that they are of -/
def isiX (cs : List Str) (sub : List (Str × List Str)) : NOp := fun rs ρ S k => match rs with
  | [r, .v (.cl m)] => cs.contains m = true ∧ match insD S r with
    | some (n, _) => match sub.lookup n with
      | some l => k (.bl (l.contains m))
      | none => False
    | none => match tyN ρ S r with
      | some _ => k (.bl false)
      | none => False
  | [r, .v (.ty b)] => match insD S r with
    | some (n, _) => (sub.lookup n).isSome = true ∧ isKnown b = true ∧ k (.bl false)
    | none => isiD rs ρ S k
  | _ => False
def isiB (K : PySem.W.Frag) (cs : List Str) (sub : List (Str × List Str)) : Bool := sub.all (fun q => insB K q.1 && (cs.all (fun m => decide (PySem.W.kitOne K (.ref (cA K q.1)) (.ref (cA K m)) = some (q.2.contains m))) && ["int", "bool", "str", "tuple", "list", "dict"].all (fun b => decide (PySem.W.kitOne K (.ref (cA K q.1)) (.type b) = some false)))) &&
  cs.all fun m => bT.all fun b => decide (PySem.W.kitOne K (.type b) (.ref (cA K m)) = some false)
theorem lookup_memD {β : Type} {n : Str} {b : β} : ∀ {l : List (Str × β)}, l.lookup n = some b → (n, b) ∈ l
  | [], e => by cases e
  | (m, c) :: r, e => by
    rw [List.lookup_cons] at e
    cases q : n == m with
    | true => rw [q] at e; cases e; rw [eq_of_beq q]; exact List.mem_cons_self
    | false => rw [q] at e; exact List.mem_cons_of_mem _ (lookup_memD e)
theorem n_isiX {X : Cx} {cs : List Str} {sub : List (Str × List Str)} (h : isiB X.K cs sub = true) : OpN X (.builtin "isinstance") (isiX cs sub) := by
  unfold isiB at h
  simp only [Bool.and_eq_true, List.all_eq_true, decide_eq_true_eq] at h; obtain ⟨h1, h2⟩ := h
  have old := n_isi (X := X)
  have new : ∀ (F I0 : Hp) (pins : List (Addr × Obj)) (s : Shared) (ρ : Env) (S : Store) (I : Hp) (σ τ : L2.St) (H : Hp) (xs : List V) (us : List Value) (r c : R) (kk : K1) (Q : VK) (b : Bool), L2.Inv X pins τ H s → Rel (gm F I0 X) ρ S I σ H → RRs (gm F I0 X) I σ [r, c] xs → Vals xs us →
      (∀ x y, xs = [x, y] → RR (gm F I0 X) I σ r x → RR (gm F I0 X) I σ c y → ∃ t u, ClsV y u ∧ TyX X.K H x t ∧ PySem.W.kitOne X.K t u = some b) → kk (.bl b) → Pst (gm F I0 X) ρ S I σ kk Q → wpAny (model X.prog X.w) X.A (call (.builtin "isinstance") us) (EP X pins τ Q) X.xe s := by
    intro F I0 pins s ρ S I σ τ H xs us r c kk Q b J R rr rv f q post
    obtain ⟨x, _, rfl, r1, y, _, rfl, r2, e⟩ := rr
    cases e
    obtain ⟨t, u, c1, c2, c3⟩ := f x y rfl r1 r2
    exact call_isi pins s τ H _ us Q J rv ⟨x, y, t, u, b, rfl, c1, c2, c3, post _ _ _ _ Le.refl R .mkB q⟩
  intro F I0 pins s ρ S I σ τ H xs us rs kk Q J R rr rv q post
  unfold isiX at q
  split at q
  · rename_i r m
    obtain ⟨hm, q⟩ := q
    have hm : m ∈ cs := by simpa using hm
    split at q
    · rename_i n fs e1
      split at q
      · rename_i l e2
        obtain ⟨f1, f2, f3⟩ := h1 _ (lookup_memD e2)
        refine new F I0 pins s ρ S I σ τ H xs us r _ kk Q _ J R rr rv (fun x y _ r1 r2 => ?_) q post
        obtain rfl : y = V.ref (cA X.K m) := r2
        obtain ⟨t1, _⟩ := R.tyX (cs := [n]) (fun c hc => by rw [List.mem_singleton.mp hc]; exact insF_of f1) r1
        exact ⟨_, _, .own _, t1 n fs e1 List.mem_cons_self, f2 m hm⟩
      · exact q.elim
    · split at q
      · rename_i e0 a e2
        refine new F I0 pins s ρ S I σ τ H xs us r _ kk Q _ J R rr rv (fun x y _ r1 r2 => ?_) q post
        obtain rfl : y = V.ref (cA X.K m) := r2
        obtain ⟨_, t2⟩ := R.tyX (cs := []) (fun c hc => nomatch hc) r1
        obtain ⟨t3, t4⟩ := t2 a e2
        exact ⟨_, _, .own _, t3, h2 m hm a t4⟩
      · exact q.elim
  · rename_i r b
    split at q
    · rename_i n fs e1
      obtain ⟨q1, q2, q⟩ := q
      obtain ⟨l, e2⟩ := Option.isSome_iff_exists.mp q1
      obtain ⟨f1, f2, f3⟩ := h1 _ (lookup_memD e2)
      refine new F I0 pins s ρ S I σ τ H xs us r _ kk Q _ J R rr rv (fun x y _ r1 r2 => ?_) q post
      obtain rfl : y = V.ty b := r2
      obtain ⟨t1, _⟩ := R.tyX (cs := [n]) (fun c hc => by rw [List.mem_singleton.mp hc]; exact insF_of f1) r1
      exact ⟨_, _, .ty _, t1 n fs e1 List.mem_cons_self, f3 b (by simpa [isKnown] using q2)⟩
    · exact old F I0 pins s ρ S I σ τ H xs us _ kk Q J R rr rv q post
  · exact q.elim

/-! ### == and != -/
/-- the other side's type is known -/
def tyOkD (cs : List Str) (ρ : Env) (S : Store) (r : R) : Bool := match insD S r with
  | some (n, _) => cs.contains n
  | none => (tyN ρ S r).isSome
def eqX (cs : List Str) (tb : SpT) : R → R → Env → Store → K1 → Prop := fun a b ρ S k => match insD S a with
  | some _ => match b with
    | .v p => tyOkD cs ρ S b = true ∧ spD tb a S [p] fun q => ∃ c, q = .bl c ∧ k q
    | .loc _ => False
  | none => eqD a b ρ S k
def neX (cs : List Str) (tb : SpT) : R → R → Env → Store → K1 → Prop := fun a b ρ S k => match insD S a with
  | some _ => match b with
    | .v p => tyOkD cs ρ S b = true ∧ spD tb a S [p] fun q => ∃ c, q = .bl c ∧ k (.bl (!c))
    | .loc _ => False
  | none => neD a b ρ S k
def eqB (K : PySem.W.Frag) (cs : List Str) (tb : List Str) : Bool := cs.all (insB K) && tb.all fun c => bT.all (fun b => PySem.W.notFirst K (cA K c) (.type b)) && (cs.all (fun d => PySem.W.notFirst K (cA K c) (.ref (cA K d))) &&
  (decide (PySem.W.findIn K (.ref (cA K c)) "__ne__" = some (some (.builtin "object.__ne__"))) && decide (PySem.W.subIn K (.ref (cA K c)) (.type "object") = some true)))
section
variable {X : Cx} {F I0 : Hp} {k : Nat} {tb : SpT} {cs : List Str} {pins : List (Addr × Obj)} {σ τ : L2.St} {H : Hp} {s : Shared} {ρ : Env} {S : Store} {I : Hp} {r : R} {x : V} {u : Value} {c : Str}
theorem type_at (h1 : ∀ c ∈ cs, InsF X.K c) (h2 : ∀ b ∈ bT, PySem.W.notFirst X.K (cA X.K c) (.type b) = true) (h3 : ∀ d ∈ cs, PySem.W.notFirst X.K (cA X.K c) (.ref (cA X.K d)) = true) (J : L2.Inv X pins τ H s) (R : Rel (gm F I0 X) ρ S I σ H) (rr : RR (gm F I0 X) I σ r x) (ru : RelV x u) (q : tyOkD cs ρ S r = true) :
    ∃ t, PySem.W.Looks (model X.prog X.w) s.heap (typeOf u) t ∧ PySem.W.notFirst X.K (cA X.K c) t = true := by
  obtain ⟨t1, t2⟩ := R.tyX h1 rr
  have go : ∀ t, TyX X.K H x t → PySem.W.notFirst X.K (cA X.K c) t = true → ∃ t, PySem.W.Looks (model X.prog X.w) s.heap (typeOf u) t ∧ PySem.W.notFirst X.K (cA X.K c) t = true := fun t ty e => by
    obtain ⟨P, Z, p, _⟩ := kit_of J ru ty
    exact ⟨t, Z.ty _ _ J.kIn p, e⟩
  unfold tyOkD at q
  split at q
  · rename_i n fs e
    have hm : n ∈ cs := by simpa using q
    exact go _ (t1 n fs e hm) (h3 n hm)
  · obtain ⟨n, e⟩ := Option.isSome_iff_exists.mp q
    obtain ⟨a, b⟩ := t2 n e
    exact go _ a (h2 n b)
theorem cmp_back {Q : Value → Shared → Prop} {v : Value} {s' : Shared} (h : Q v s') (hn : v ≠ .notImplemented) : PySem.W.CmpBack Q v s' := by
  unfold PySem.W.CmpBack
  split
  · exact (hn rfl).elim
  · exact h
theorem eqB_of {K : PySem.W.Frag} {tn : List Str} (h : eqB K cs tn = true) : (∀ c ∈ cs, InsF K c) ∧ ∀ c ∈ tn, (∀ b ∈ bT, PySem.W.notFirst K (cA K c) (.type b) = true) ∧ (∀ d ∈ cs, PySem.W.notFirst K (cA K c) (.ref (cA K d)) = true) ∧ PySem.W.findIn K (.ref (cA K c)) "__ne__" = some (some (.builtin "object.__ne__")) ∧ PySem.W.subIn K (.ref (cA K c)) (.type "object") = some true := by
  unfold eqB at h
  simp only [Bool.and_eq_true, List.all_eq_true, decide_eq_true_eq] at h; exact ⟨fun c hc => insF_of (h.1 c hc), fun c hc => ⟨(h.2 c hc).1, (h.2 c hc).2.1, (h.2 c hc).2.2.1, (h.2 c hc).2.2.2⟩⟩
theorem o_eqX (h : AllT (fun q => SpOk X.prog X.w X.K X.mg X.base k "__eq__" q) tb) (hb : eqB X.K cs (tb.map (·.1)) = true) (hg : X.A.guards = some []) (hr : Room k X.A) : Op2 X (compareOp .Eq) (eqX cs tb) := by
  obtain ⟨b1, b2⟩ := eqB_of hb
  intro F I0 pins s ρ S I σ τ H x y v u a b kk Q J R ra rb rx ry q post
  unfold eqX at q
  split at q
  · split at q
    · rename_i p
      obtain ⟨q1, q⟩ := q
      obtain ⟨c, d, p0, ad, dx, gs, rfl, e2, rfl, rfl, ea, rp, q⟩ := spD_of R ra rx q
      obtain ⟨g, s1, s2, s3, C⟩ := h.at e2
      obtain ⟨f1, f2, f3, f4⟩ := b2 c (List.mem_map.mpr ⟨_, lookup_memD e2, rfl⟩)
      obtain ⟨od, I2⟩ := ins_at J ea
      obtain ⟨m0, hF⟩ := J.fr
      obtain ⟨t, t1, t2⟩ := type_at b1 f1 f2 J R rb ry q1
      refine PySem.W.cmp_K (op := .Eq) hr.units0 hF J.ok.mod.kin I2 t1 t2 s1 s2 (sp_run (xs := [.ref ad, y]) (as := [p0, p]) C hg hr rfl J R (.cons rfl (.cons ry .nil)) ⟨_, _, rfl, rp, _, _, rfl, rb, rfl⟩ q fun z H' p I' u s' l R' rp' q' J' ru => ?_)
      obtain ⟨c, rfl, kq⟩ := q'
      cases rp'
      cases ru
      exact cmp_back ⟨.bl c, H', J', rfl, post _ _ _ _ l R' .mkB kq⟩ (fun z => nomatch z)
    · exact q.elim
  · exact o_eq hr.units F I0 pins s ρ S I σ τ H x y v u a b kk Q J R ra rb rx ry q post
theorem o_neX (h : AllT (fun q => SpOk X.prog X.w X.K X.mg X.base k "__eq__" q) tb) (hb : eqB X.K cs (tb.map (·.1)) = true) (hg : X.A.guards = some []) (hr : Room (k + 1) X.A) : Op2 X (compareOp .NotEq) (neX cs tb) := by
  obtain ⟨b1, b2⟩ := eqB_of hb
  intro F I0 pins s ρ S I σ τ H x y v u a b kk Q J R ra rb rx ry q post
  unfold neX at q
  split at q
  · split at q
    · rename_i p
      obtain ⟨q1, q⟩ := q
      obtain ⟨c, d, p0, ad, dx, gs, rfl, e2, rfl, rfl, ea, rp, q⟩ := spD_of R ra rx q
      obtain ⟨g, s1, s2, s3, C⟩ := h.at e2
      obtain ⟨f1, f2, f3, f4⟩ := b2 c (List.mem_map.mpr ⟨_, lookup_memD e2, rfl⟩)
      obtain ⟨od, I2⟩ := ins_at J ea
      obtain ⟨t, t1, t2⟩ := type_at b1 f1 f2 J R rb ry q1
      refine PySem.W.d_ne (by have := hr.units; omega) J.kIn I2 t1 t2 s1 s2 f3 f4 (sp_run (xs := [.ref ad, y]) (as := [p0, p]) C hg hr.in1 rfl J R (.cons rfl (.cons ry .nil)) ⟨_, _, rfl, rp, _, _, rfl, rb, rfl⟩ q fun z H' p I' u s' l R' rp' q' J' ru => ?_)
      obtain ⟨c, rfl, kq⟩ := q'
      cases rp'
      cases ru
      exact ⟨c, rfl, .bl (!c), H', J', rfl, post _ _ _ _ l R' .mkB kq⟩
    · exact q.elim
  · exact o_ne hr.units F I0 pins s ρ S I σ τ H x y v u a b kk Q J R ra rb rx ry q post
/-- b in a, a an instance -/
def inX (tb : SpT) (neg : Bool) (old : R → R → Env → Store → K1 → Prop) : R → R → Env → Store → K1 → Prop := fun b a ρ S k => match insD S a with
  | some _ => match b with
    | .v p => spD tb a S [p] fun q => ∃ c, q = .bl c ∧ k (.bl (xor c neg))
    | .loc _ => False
  | none => old b a ρ S k
theorem o_inX (h : AllT (fun q => SpOk X.prog X.w X.K X.mg X.base k "__contains__" q) tb) (hg : X.A.guards = some []) (hr : Room k X.A) : Op2 X (compareOp .In) (inX tb false inD) := by
  intro F I0 pins s ρ S I σ τ H x y v u b a kk Q J R rb ra ry rx q post
  unfold inX at q
  split at q
  · split at q
    · rename_i p
      obtain ⟨c, d, p0, ad, dx, gs, rfl, e2, rfl, rfl, ea, rp, q⟩ := spD_of R ra rx q
      obtain ⟨g, s1, s2, s3, C⟩ := h.at e2
      obtain ⟨od, I2⟩ := ins_at J ea
      obtain ⟨m0, hF⟩ := J.fr
      refine PySem.W.in_K hF J.ok.mod.kin I2 s1 s2 (sp_run (xs := [.ref ad, x]) (as := [p0, p]) C hg hr rfl J R (.cons rfl (.cons ry .nil)) ⟨_, _, rfl, rp, _, _, rfl, rb, rfl⟩ q fun z H' p I' u s' l R' rp' q' J' ru => ?_)
      obtain ⟨c, rfl, kq⟩ := q'
      cases rp'
      cases ru
      rw [Bool.xor_false] at kq
      exact wpAny_truthy_bool ⟨.bl c, H', J', rfl, post _ _ _ _ l R' .mkB kq⟩
    · exact q.elim
  · exact o_in hr.units F I0 pins s ρ S I σ τ H x y v u b a kk Q J R rb ra ry rx q post
/-- a[i], a an instance -/
def ixX (tb : SpT) : R → R → Env → Store → K1 → Prop := fun a b ρ S k => match insD S a with
  | some _ => match b with
    | .v p => spD tb a S [p] k
    | .loc _ => False
  | none => ixD a b ρ S k
theorem d_ixX {a b : Expr} {Ta Tb : DT} {pos : Pos} (ha : DE F I0 X a Ta) (hb : DE F I0 X b Tb) (h : AllT (fun q => SpOk X.prog X.w X.K X.mg X.base k "__getitem__" q) tb) (hg : X.A.guards = some []) (hr : Room (k + 1) X.A) (hs : PlainIx b := by exact fun _ _ => rfl)
    (hsl : ∀ x i, subscripted b true (.ref x) i = runValue (.builtin "lifetime.subscript" ⟨[.ref x, i], []⟩) := by intro x i; with_unfolding_all rfl) : DE F I0 X (.Subscript a b pos) (T2 (ixX tb) Ta Tb) := by
  refine ⟨fun pins s σ H Q J h0 => ?_⟩
  have hI := weak2 (r := rD2 (gm F I0 X) (ixX tb)) (fun _ _ _ _ h => h) σ H Q h0
  refine PyProof.Rows.Subscript_ (binT ha hb J hI fun v u s2 x y H2 J2 rx ry q => ?_)
  obtain ⟨ρ, S, I, σ', ra, rb, kk, R, rra, rrb, q, post⟩ := q
  unfold ixX at q
  split at q
  · split at q
    · rename_i p
      obtain ⟨c, d, p0, ad, dx, gs, rfl, e2, rfl, rfl, ea, rp, q⟩ := spD_of R rra rx q
      obtain ⟨g, s1, s2, s3, C⟩ := h.at e2
      obtain ⟨od, I2⟩ := ins_at J2 ea
      obtain ⟨m0, hF⟩ := J2.fr
      exact PySem.W.sub_K hF J2.ok.mod.kin I2 s1 s3 s2 (sp_run (xs := [.ref ad, y]) (as := [p0, p]) C hg hr.in1 rfl J2 R (.cons rfl (.cons ry .nil)) ⟨_, _, rfl, rp, _, _, rfl, rrb, rfl⟩ q fun z H' p I' u s' l R' rp' q' J' ru => ⟨z, H', J', ru, post _ _ _ _ l R' rp' q'⟩) (hsl _ _)
    · exact q.elim
  · exact ix_seq a b pins s2 σ H2 x y v u Q J2 rx ry (l_ix F I0 ρ S I σ' H2 x y _ _ kk Q R rra rrb q post) (hs _ _)
end
end D
/-! D19: own classes: class methods, constants, instances called, fields stored, classes as values. -/
namespace D
open PySem PySem.Spec L2
section
variable {X : Cx} {F I0 : Hp} {k : Nat} {x m f : Str} {tb : MT} {ks : List Str} {n mm : Nat} {W : DXr} {o e : Expr} {es : List Expr} {kws : List Keyword} {T Tv : DT} {B : DA2} {pos apos : Pos} {pl : Sem Bool}
/-- a class as a value -/
theorem dcl (hm : X.mg x = some (.ref (cA X.K x))) (hg : Gl X x := by rfl) (hd : (x == ("__debug__" : Str)) = false := by decide) : DE F I0 X (.Name x pos) (TC (.cl x)) :=
  d_glob (v := .ref (cA X.K x)) hg hm rfl (fun _ _ => rfl) hd
/-- C.f, a constant of the class -/
def TCv (tb : List (Str × P)) (T : DT) : DT := fun ρ S Q => T ρ S fun r ρ1 S1 => match r with
  | .v (.cl c) => match tb.lookup c with
    | some p => Q (.v p) ρ1 S1
    | none => False
  | _ => False
def CvOk (K : PySem.W.Frag) (f : Str) (q : Str × P) : Prop := ∃ mc v u, ClX.CRead K (cA K q.1) mc ∧ ClX.CVal K (cA K q.1) mc f v u ∧ ∀ G I, G.K = K → RP G I q.2 v
theorem d_cv {tb : List (Str × P)} (he : DE F I0 X e T) (h : AllT (CvOk X.K f) tb) (hb : attributeBase e f X.env (eval e X.env) = eval e X.env := by rfl) : DE F I0 X (.Attribute e f pos) (TCv tb T) := by
  refine (ClX.pe_cval he hb).weak fun σ H Q h0 => ?_
  obtain ⟨ρ, S, I, Q0, R, q, post⟩ := h0
  refine ⟨ρ, S, I, _, R, q, fun y H1 r ρ1 S1 I1 l R1 rr q => ?_⟩
  split at q
  · rename_i c
    split at q
    · rename_i p e2
      obtain ⟨mc, v, u, h1, h2, h3⟩ := h.at e2
      exact ⟨_, mc, v, u, rr, h1, h2, post _ _ (.v p) _ _ _ l R1 (h3 _ _ rfl) q⟩
    · exact q.elim
  · exact q.elim
/-- C.m(..), m a class method -/
theorem d_cm (he : DE F I0 X o T) (hB : DCw F I0 X pos es kws ks B) (h : AllT (fun q => CmOk X.prog X.w X.K X.mg X.base k m ks n q) tb) (hg : X.A.guards = some []) (hr : Room k X.A) (tk : L2.Takes X (trW (gm F I0 X) W)) (hml : ks.length = mm := by rfl)
    (ht : eval (.Call (.Attribute o m apos) es kws pos) X.env = (do
      let ov ← eval o X.env
      standAt apos.atName
      let (fv, more) ← holding [ov] (getMethod ov m pl)
      callWith pos fv more (backTo pos (starEach es X.env)) (backToKw pos (keywordEach kws X.env))) := by rfl) : DE F I0 X (.Call (.Attribute o m apos) es kws pos) (TCm tb n mm W T B) := by
  refine ⟨fun pins s σ H Q J h0 => ?_⟩
  obtain ⟨ρ, S, I, Q0, R, q, post⟩ := h0
  refine PySem.W.methodCall_KW (pl := pl) (thn (he.run pins s σ H (fun x H1 => ∃ r ρ1 S1 I1, Le I I1 ∧ Rel (gm F I0 X) ρ1 S1 I1 σ H1 ∧ RR (gm F I0 X) I1 σ r x ∧ _) J ⟨ρ, S, I, _, R, q, fun x H' r ρ' S' I' l R' rr q => ⟨r, ρ', S', I', l, R', rr, q⟩⟩) fun u s1 ⟨x, H1, J1, rx, r, ρ1, S1, I1, l, R1, rr, q⟩ => ?_) ht
  split at q
  · rename_i c
    obtain rfl : x = V.ref (cA X.K c) := rr
    obtain rfl : u = Value.ref (cA X.K c) := rx
    split at q
    · rename_i d src ds e2
      obtain ⟨mc, p, g, h1, h2, C⟩ := h.at e2
      refine ClX.getmethcm_ok J1 h1 h2 fun s2 J2 => ?_
      refine PySem.W.callWith_of (P := PySem.W.MethP X.K s1.heap.objs.size g (.ref (cA X.K c))) hB.plain (PySem.W.keeps_M h2.fi) (hB.run _ _ s2 σ H1 ρ1 S1 I1 _ _ J2 R1 q fun us ws xs zs rs qs ρ2 S2 I2 H2 s3 l2 J3 R2 rx rz rr2 rq q2 => ⟨⟨ClX.pin_at J3, J3.kIn⟩, ?_⟩)
      split at q2
      · rename_i as bs e3 e4
        obtain ⟨n1, n2, q2⟩ := q2
        refine thn (Q := fun u s' => EP X ((s1.heap.objs.size, PySem.W.methodObj (.ref g) (.ref (cA X.K c))) :: pins) σ Q u s') (wpAny_call (PySem.W.method_call (ClX.pin_at J3) (codeAny_mono (CallKOk.run (R0 := fun r s' => match r with
            | .ok (.ret u) => EP X ((s1.heap.objs.size, PySem.W.methodObj (.ref g) (.ref (cA X.K c))) :: pins) σ Q u s'
            | .ok _ => False
            | .error e => X.xe e s') (us := .ref (cA X.K c) :: us) (xs := .ref (cA X.K c) :: xs) (as := .cl c :: as) (W0 := trW (gm F I0 X) W) C hg hr rfl (fun _ _ _ z => z) J3 (.cons rfl rx) rz R2 ⟨.ref (cA X.K c), xs, rfl, rfl, vals_of rr2 e3⟩ (vals_of rq e4) n1 n2 hml q2
          (fun x H' p S' I' u s' l3 R' rp' q' J' ru => ⟨x, H', J', ru, post x H' (.v p) _ _ _ (l.trans (l2.trans l3)) R' rp' q'⟩) fun e s' z => tk e s' z) fun r s' hq => by
          cases r with
          | error e => exact hq
          | ok fl => cases fl with
            | ret u => exact hq
            | next => exact hq.elim
            | brk => exact hq.elim
            | cont => exact hq.elim))) fun _ _ y => ClX.unpinE y
      · exact q2.elim
    · exact q.elim
  · exact q.elim
theorem callO_kw {M : Model} {A : Around} {E : Value → Shared → Prop} {s : Shared} {a : Addr} {pos : Pos} {Q : Value → Shared → Prop} {args : List (Bool × Sem Value)} {kwd : List (Option Str × Sem Value)} (hplain : (args.any (·.1) || kwd.any (·.1.isNone)) = false)
    (h : wpAny M A (evalArgs (.ref a) true args kwd) (fun z s₁ => (∃ C ox od, PySem.W.InstAt s₁.heap a ox C od ∧ ox.data = .plain) ∧ wpAny M A (call (.ref a) ([] ++ z.pos) z.kw) Q E s₁) E s) : wpAny M A (callWith pos (.ref a) [] args kwd) Q E s := by
  unfold callWith
  refine wpAny_bind (wpAny_holding (wpAny_mono h (fun z s₁ h₁ => wpAny_bind (wpAny_standAt ?_)) fun _ _ y => y)); obtain ⟨⟨C, ox, od, J, hd⟩, h₁⟩ := h₁
  have L := PySem.W.kco_keeper (M := M) J hd; simp only [hplain]
  refine wpAny_bind (L.here ?_)
  have back : ∀ {u : Sem Value}, wpAny M A u Q E s₁ → wpAny M A (u >>= fun r => holding [r] point >>= fun _ => pure r) Q E s₁ :=
    fun hu => wpAny_bind (wpAny_mono hu (fun r s₂ hr => wpAny_bind (wpAny_holding (wpAny_point (wpAny_pure hr)))) fun _ _ y => y)
  (exact back (wpAny_operateT h₁))
/-- o(..), o an instance -/
theorem d_inst {fe : Expr} (he : DE F I0 X fe T) (hB : DCw F I0 X pos es kws ks B) (h : AllT (fun q => InOk X.prog X.w X.K X.mg X.base k ks n q) tb) (hg : X.A.guards = some []) (hr : Room k X.A) (tk : L2.Takes X (trW (gm F I0 X) W)) (hml : ks.length = mm := by rfl)
    (ht : eval (.Call fe es kws pos) X.env = (do callWith pos (← eval fe X.env) [] (backTo pos (starEach es X.env)) (backToKw pos (keywordEach kws X.env))) := by rfl) : DE F I0 X (.Call fe es kws pos) (TInst tb n mm W T B) := by
  refine ⟨fun pins s σ H Q J h0 => ?_⟩
  obtain ⟨ρ, S, I, Q0, R, q, post⟩ := h0
  rw [ht]
  refine wpAny_bind (thn (he.run pins s σ H (fun x H1 => ∃ r ρ1 S1 I1, Le I I1 ∧ Rel (gm F I0 X) ρ1 S1 I1 σ H1 ∧ RR (gm F I0 X) I1 σ r x ∧ _) J ⟨ρ, S, I, _, R, q, fun x H' r ρ' S' I' l R' rr q => ⟨r, ρ', S', I', l, R', rr, q⟩⟩) fun u s1 ⟨x, H1, J1, rx, r, ρ1, S1, I1, l, R1, rr, q⟩ => ?_)
  split at q
  · rename_i c fs e1
    split at q
    · rename_i d src ds p e2
      obtain ⟨g, c1, C⟩ := h.at e2
      obtain ⟨a, dx, gs, rfl, ea, t⟩ := R1.ins rr e1
      obtain rfl : u = Value.ref a := rx; refine callO_kw hB.plain (hB.run _ pins s1 σ H1 ρ1 S1 I1 _ _ J1 R1 q fun us ws xs zs rs qs ρ2 S2 I2 H2 s2 l2 J2 R2 rx rz rr2 rq q2 => ?_)
      split at q2
      · rename_i as bs e3 e4
        obtain ⟨⟨fs2, e5⟩, n1, n2, q2⟩ := q2
        have rr3 : RR (gm F I0 X) I2 σ (.v p) (.ref a) := RP.mono l2 _ _ rr
        obtain ⟨a', dx', gs', ea1, ea', t'⟩ := R2.ins rr3 e5
        cases ea1
        obtain ⟨od, J4⟩ := ins_at J2 ea'
        refine ⟨⟨_, _, _, J4, rfl⟩, ?_⟩
        exact wpAny_call (PySem.W.kco_code J2.kIn J4 rfl c1.at_ c1.fn c1.fi (codeAny_mono (CallKOk.run (R0 := fun r s' => match r with
            | .ok (.ret u) => EP X pins σ Q u s'
            | .ok _ => False
            | .error e => X.xe e s') (us := .ref a :: us) (xs := .ref a :: xs) (as := p :: as) (W0 := trW (gm F I0 X) W) C hg hr rfl (fun _ _ _ z => z) J2 (.cons rfl rx) rz R2 ⟨.ref a, xs, rfl, rr3, vals_of rr2 e3⟩ (vals_of rq e4) n1 n2 hml q2
          (fun x H' p S' I' u s' l3 R' rp' q' J' ru => ⟨x, H', J', ru, post x H' (.v p) _ _ _ (l.trans (l2.trans l3)) R' rp' q'⟩) fun e s' z => tk e s' z) fun r s' hq => by
          cases r with
          | error e => exact hq
          | ok fl => cases fl with
            | ret u => exact hq
            | next => exact hq.elim
            | brk => exact hq.elim
            | cont => exact hq.elim))
      · exact q2.elim
    · exact q.elim
  · exact q.elim
/-- o.f = e, o an instance of the store -/
def SFld (f : Str) (cs : List Str) (To Tv : DT) : DS := fun D ρ S => Tv ρ S fun v ρ1 S1 => To ρ1 S1 fun r ρ2 S2 => match r, v with
  | .v (.ref a), .v p => match S2 a with
    | some (.ins c fs) => cs.contains c = true ∧ fs.length < 1000 ∧ D.nx ρ2 (ups S2 a (.ins c (putD f p fs)))
    | _ => False
  | _, _ => False
theorem s_fld {cs : List Str} (ho : DE F I0 X o T) (hv : DE F I0 X e Tv) (h : ∀ c ∈ cs, Cls X.K (cA X.K c) ∧ NoAttr X.K (cA X.K c) f) (hs : swapsWith e (some (.Attribute o f apos)) pos.line X.env = pure false := by rfl) : DSt F I0 X (.Assign [.Attribute o f apos] e pos) (SFld f cs T Tv) := by
  refine (ps_fld ho hv hs).weak fun D σ H ⟨ρ, S, I, D0, R, q, h1, h2, h3, h4⟩ => ?_
  refine ⟨ρ, S, I, _, R, q, fun y H1 rv ρ1 S1 I1 l1 R1 rr1 q1 => ⟨ρ1, S1, I1, _, R1, q1, fun x H2 r ρ2 S2 I2 l2 R2 rr2 q2 => ?_⟩⟩
  split at q2
  · rename_i a p
    split at q2
    · rename_i c fs e1
      obtain ⟨hc, hl, q2⟩ := q2
      obtain rfl : x = V.ref a := rr2
      obtain ⟨⟨dx, gs, ea, t⟩, _⟩ := R2.sr.st _ _ e1
      obtain ⟨c1, c2⟩ := h c (by simpa using hc)
      have rp := RP.mono l2 _ _ rr1
      exact ⟨a, _, dx, gs, rfl, ea, c1, c2, by rw [← t.length]; exact hl, h1 _ _ _ _ _ (l1.trans l2) (R2.setSt e1 (o' := .ins c (putD f p fs)) ⟨dx, _, upd_same, t.put rp⟩) q2⟩
    · exact q2.elim
  · exact q2.elim
end
end D
/-! D20: dicts: display, comprehension, a | b, d[k], k in d, d[k] = v. -/
namespace PySem
open PyProof.Rows PySem PySem.Spec
section
variable {prog : Program} {w : World} {K : Type} [DecidableEq K] {knd : KeyKind prog w K} {A : Around} {E : Value → Shared → Prop} {s : Shared} {a b : Addr} {kvs more : List (K × Value)}
theorem dk_or_body {Q : Value → Shared → Prop} (ha : (a == sysModules) = false) (hb : (b == sysModules) = false) (da : s.heap.DictOf knd a kvs) (db : s.heap.DictOf knd b more) (hsz : kvs.length + more.length ≤ sizeLine)
    (h : ∀ h', h'.DictOf knd s.heap.objs.size (merged kvs more) → (∀ c o, s.heap.get? c = some o → h'.get? c = some o) → Q (.ref s.heap.objs.size) { s with heap := h' }) :
    wpAny (model prog w) A (Builtin.«dict.__or__» ⟨[.ref a, .ref b], []⟩) (fun fin s' => ∃ v, fin = .done (.ret v) ∧ Q v s') E s := by
  obtain ⟨o, es, ep, ho, hc, hdat, hk, hp, hn⟩ := id da
  have hes : es.size ≤ sizeLine + 1 := by
    have e1 := hp.length
    have e2 : es.toList.length = es.size := by simp
    omega
  unfold Builtin.«dict.__or__» Builtin.Dict.dictSlotArgs
  refine wpAny_bind ?_
  refine wpAny_bind (wpAny_notOrdered_dict da.typeIs ?_); show wpAny _ _ (pure (Value.ref a, Value.ref b)) _ _ _
  refine wpAny_pure ?_
  have fin : ∀ (s1 : Shared), s1 = { s with heap := s.heap.push { cls := .type "dict", data := .dict es } } → wpAny (model prog w) A (holding [.ref s.heap.objs.size] (Builtin.Dict.updateFrom "dict.__or__" s.heap.objs.size (.ref b) [] (.ref s.heap.objs.size))) (fun fin s' => ∃ v, fin = .done (.ret v) ∧ Q v s') E s1 := by
    rintro s1 rfl
    have hnew : (s.heap.push { cls := .type "dict", data := .dict es }).DictOf knd s.heap.objs.size kvs := ⟨_, es, 0, Heap.get?_push_size _ rfl, ⟨rfl, rfl, rfl⟩, rfl, hk, hp, hn⟩
    have db' : (s.heap.push { cls := .type "dict", data := .dict es }).DictOf knd b more := db.push _
    have hdo : s.heap.objs.size ≠ b := by
      obtain ⟨_, _, _, hg, _⟩ := db
      (exact fun e => absurd (Heap.lt_size hg) (by rw [e]; exact Nat.lt_irrefl _))
    refine wpAny_holding ?_
    unfold Builtin.Dict.updateFrom; refine wpAny_bind (wpAny_typeOf db'.typeIs ?_)
    rw [if_neg (by decide)]
    refine wpAny_bind ?_
    unfold Builtin.Dict.merge
    refine wpAny_bind ?_
    unfold Builtin.Dict.readDirectly; refine wpAny_bind (wpAny_isInstance db'.typeIs isSubtype_dict_dict ?_)
    simp only [Bool.not_true, Bool.false_eq_true, if_false]; refine wpAny_bind (wpAny_specialOf db'.typeIs F.slot_dict_iter.lookup (wpAny_pure ?_))
    simp only [beq_self_eq_true, if_true]; refine wpAny_bind (wpAny_pure ?_)
    refine wpAny_mergeDict (hsz := hsz) hdo hb hnew db' fun h' hd' _ hs' => ?_
    show wpAny _ _ (Builtin.Dict.addKeywords s.heap.objs.size [] >>= _) _ _ _; refine wpAny_bind (wpAny_pure (wpAny_pure ⟨_, rfl, h h' hd' fun c o e => ?_⟩))
    exact (hs'.2 c (Nat.ne_of_lt (Heap.lt_size e))).trans (Heap.get?_push_of_some _ e)
  show wpAny _ _ (do
    if !(← isInstance (.ref a) (.type "dict") <&&> isInstance (.ref b) (.type "dict")) then rule s!"dict.__or__.not-a-dict"; return ← ret .notImplemented
    let new ← Builtin.Dict.copyOf "dict.__or__" (.ref a)
    holding [new] (Builtin.Dict.updateFrom "dict.__or__" (← Builtin.Dict.addrOf new) (.ref b) [] new)) _ _ _
  refine wpAny_bind ?_
  refine wpAny_bind (wpAny_isInstance da.typeIs isSubtype_dict_dict ?_)
  show wpAny _ _ (isInstance (.ref b) (.type "dict")) _ _ _
  refine wpAny_isInstance db.typeIs isSubtype_dict_dict ?_
  simp only [Bool.not_true, Bool.false_eq_true, if_false]; refine wpAny_bind ?_
  unfold Builtin.Dict.copyOf
  refine wpAny_bind (wpAny_pure ?_); unfold Builtin.Dict.showsAll
  rw [if_neg (by rw [ha]; exact Bool.false_ne_true)]
  refine wpAny_bind (wpAny_pure ?_); refine wpAny_bind (wpAny_dictEntries ho hdat ?_)
  by_cases emp : es.isEmpty = true
  · rw [if_pos emp]
    refine wpAny_bind (wpAny_rule (wpAny_newObj_type ?_)); refine wpAny_bind (wpAny_pure ?_)
    exact fin _ (by rw [Array.isEmpty_iff.mp emp])
  · rw [if_neg emp]
    refine wpAny_bind ?_
    unfold Builtin.Dict.readDirectly; refine wpAny_bind (wpAny_isInstance da.typeIs isSubtype_dict_dict ?_)
    simp only [Bool.not_true, Bool.false_eq_true, if_false]; refine wpAny_bind (wpAny_specialOf da.typeIs F.slot_dict_iter.lookup (wpAny_pure ?_))
    simp only [beq_self_eq_true, if_true]; refine wpAny_bind (wpAny_entriesForEmpty (knd := knd) ho hdat hk (wpAny_newObj_type ?_ hes))
    refine wpAny_bind (wpAny_pure ?_); exact fin _ rfl
/-- a | b, two dicts -/
theorem dk_or {Q : Value → Shared → Prop} (ha : (a == sysModules) = false) (hb : (b == sysModules) = false) (da : s.heap.DictOf knd a kvs) (db : s.heap.DictOf knd b more) (hsz : kvs.length + more.length ≤ sizeLine)
    (h : ∀ h', h'.DictOf knd s.heap.objs.size (merged kvs more) → (∀ c o, s.heap.get? c = some o → h'.get? c = some o) → Q (.ref s.heap.objs.size) { s with heap := h' }) :
    wpAny (model prog w) A (binaryOp .BitOr (.ref a) (.ref b)) Q E s := by
  have cl : wpAny (model prog w) A (call (.builtin "dict.__or__") [.ref a, .ref b]) (fun v s' => (∃ z, v = .ref z) ∧ Q v s') E s := by
    refine GQ.call_here F.slot_dict_or da.typeIs F.entry_dict_or (F.args_dict_or_2 _ _) (wpAny_mono (dk_or_body (Q := fun v s' => (∃ z, v = .ref z) ∧ Q v s') ha hb da db hsz fun h' hd hk => ⟨⟨_, rfl⟩, h h' hd hk⟩) (fun fin s' z => ?_) fun _ _ x => x)
    obtain ⟨v, rfl, q⟩ := z
    exact q
  unfold binaryOp
  refine wpAny_holding (wpAny_bind ?_); unfold binaryOp1
  refine wpAny_bind (wpAny_typeOf da.typeIs (wpAny_bind (wpAny_typeOf db.typeIs (wpAny_bind (wpAny_of_eq F.fills_dict_or ?_)))))
  simp only [beq_self_eq_true, if_true]; refine wpAny_bind (wpAny_pure ?_)
  simp only [Bool.and_false, Bool.false_eq_true, if_false, Bool.false_and]; refine wpAny_bind (wpAny_pure ?_)
  simp only [Bool.false_eq_true, if_false]; refine wpAny_bind (m := tryMethod (.ref a) _ (.ref b)) ?_
  unfold tryMethod
  refine wpAny_bind (wpAny_callSpecial?_slot da.typeIs F.slot_dict_or (wpAny_mono cl (fun v s' hv => ?_) fun _ _ e => e))
  obtain ⟨⟨z, rfl⟩, q⟩ := hv
  (exact wpAny_pure (wpAny_pure (wpAny_pure q)))
end
end PySem
namespace D
open PySem PySem.Spec L2
/-! ### dicts as lists of pairs -/
def keyP : P → Option Key
  | .int i => some (.inl i)
  | .str s => some (.inr s)
  | _ => none
def keq : P → P → Bool
  | .int i, .int j => decide (i = j)
  | .str s, .str t => decide (s = t)
  | _, _ => false
def valP : List (P × P) → P → Option P
  | [], _ => none
  | (c, v) :: r, k => if keq c k = true then some v else valP r k
def putP (kvs : List (P × P)) (k v : P) : List (P × P) := if (kvs.any fun q => keq q.1 k) = true then kvs.map (fun q => if keq q.1 k = true then (q.1, v) else q) else kvs ++ [(k, v)]
def mergeP (kvs more : List (P × P)) : List (P × P) := more.foldl (fun acc q => putP acc q.1 q.2) kvs
theorem RK.key {p : P} {c : Key} (h : RK p c) : keyP p = some c := by
  cases p <;> first | (exfalso; exact h; done) | skip
  · cases h; rfl
  · cases h.1; rfl
theorem RK.eq {p q : P} {c d : Key} (h : RK p c) (k : RK q d) : keq p q = decide (c = d) := by
  cases p <;> first | (exfalso; exact h; done) | skip
  · cases h
    cases q <;> first | (exfalso; exact k; done) | skip
    · cases k; simp [keq]
    · cases k.1; simp [keq]
  · cases h.1
    cases q <;> first | (exfalso; exact k; done) | skip
    · cases k; simp [keq]
    · cases k.1; simp [keq]
theorem RK.of {G : Gm} {I : Hp} {p : P} {x : V} {c : Key} (r : RP G I p x) (h : keyP p = some c) : x = kV c ∧ RK p c := by
  cases p <;> first | (exfalso; simp [keyP] at h; done) | skip
  · cases h; cases r; exact ⟨rfl, rfl⟩
  · cases h; exact ⟨r.1, rfl, r.2⟩
section
variable {G : Gm} {I : Hp}
theorem RDs.length : ∀ {kvs : List (P × P)} {ds : List (Key × V)}, RDs G I kvs ds → kvs.length = ds.length
  | [], _, r => by cases r; rfl
  | (_, _) :: _, _, ⟨_, _, _, e, _, _, t⟩ => by subst e; exact congrArg Nat.succ (RDs.length t)
theorem RDs.val {k : P} {c : Key} (hk : RK k c) : ∀ {kvs : List (P × P)} {ds : List (Key × V)}, RDs G I kvs ds → (valP kvs k = none ∧ valV ds c = none) ∨ ∃ p x, valP kvs k = some p ∧ valV ds c = some x ∧ RP G I p x
  | [], _, r => by cases r; exact .inl ⟨rfl, rfl⟩
  | (a, v) :: kvs, _, ⟨d, x, q, e, h1, h2, t⟩ => by
    subst e
    have e := h1.eq hk
    unfold valP
    by_cases hc : d = c
    · rw [valV_pos (p := (d, x)) hc, e, decide_eq_true hc, if_pos rfl]
      exact .inr ⟨v, x, rfl, rfl, h2⟩
    · rw [valV_neg (p := (d, x)) hc, e, decide_eq_false hc, if_neg (by simp)]
      exact RDs.val hk t
theorem RDs.any {k : P} {c : Key} (hk : RK k c) : ∀ {kvs : List (P × P)} {ds : List (Key × V)}, RDs G I kvs ds → (kvs.any fun q => keq q.1 k) = ds.any fun q => decide (q.1 = c)
  | [], _, r => by cases r; rfl
  | (a, v) :: kvs, _, ⟨d, x, q, e, h1, h2, t⟩ => by
    subst e
    rw [List.any_cons, List.any_cons, RDs.any hk t]
    exact congrArg (· || _) (h1.eq hk)
theorem RDs.repl {k : P} {c : Key} (hk : RK k c) {p : P} {x : V} (hp : RP G I p x) : ∀ {kvs : List (P × P)} {ds : List (Key × V)}, RDs G I kvs ds → RDs G I (kvs.map fun q => if keq q.1 k = true then (q.1, p) else q) (ds.map fun q => if q.1 = c then (q.1, x) else q)
  | [], _, r => by cases r; rfl
  | (a, v) :: kvs, _, ⟨d, y, q, e, h1, h2, t⟩ => by
    subst e
    rw [List.map_cons, List.map_cons]; have e := h1.eq hk
    by_cases hc : d = c
    · rw [show (if keq (a, v).1 k = true then ((a, v).1, p) else (a, v)) = (a, p) by rw [show keq (a, v).1 k = keq a k from rfl, e, decide_eq_true hc]; rfl, show (if (d, y).1 = c then ((d, y).1, x) else (d, y)) = (d, x) by rw [if_pos hc]]
      exact ⟨d, x, _, rfl, h1, hp, RDs.repl hk hp t⟩
    · rw [show (if keq (a, v).1 k = true then ((a, v).1, p) else (a, v)) = (a, v) by rw [show keq (a, v).1 k = keq a k from rfl, e, decide_eq_false hc]; rfl, show (if (d, y).1 = c then ((d, y).1, x) else (d, y)) = (d, y) by rw [if_neg hc]]
      exact ⟨d, y, _, rfl, h1, h2, RDs.repl hk hp t⟩
theorem RDs.append : ∀ {kvs qs : List (P × P)} {ds es : List (Key × V)}, RDs G I kvs ds → RDs G I qs es → RDs G I (kvs ++ qs) (ds ++ es)
  | [], _, _, _, r, t => by cases r; exact t
  | (_, _) :: _, _, _, _, ⟨c, x, q, e, k, r, t⟩, u => by subst e; exact ⟨c, x, _, rfl, k, r, RDs.append t u⟩
theorem RDs.put {k : P} {c : Key} (hk : RK k c) {p : P} {x : V} (hp : RP G I p x) {kvs : List (P × P)} {ds : List (Key × V)} (r : RDs G I kvs ds) : RDs G I (putP kvs k p) (putK ds c x) := by
  unfold putP putK
  rw [RDs.any hk r]
  split
  · exact RDs.repl hk hp r
  · exact RDs.append r ⟨c, x, [], rfl, hk, hp, rfl⟩
theorem RDs.merge : ∀ {more : List (P × P)} {es : List (Key × V)} {kvs : List (P × P)} {ds : List (Key × V)}, RDs G I more es → RDs G I kvs ds → RDs G I (mergeP kvs more) (mergeK ds es)
  | [], _, _, _, r, t => by cases r; exact t
  | (k, p) :: more, _, kvs, ds, ⟨c, x, q, e, hk, hp, t⟩, u => by
    subst e
    show RDs G I (mergeP (putP kvs k p) more) (mergeK (putK ds c x) q)
    exact RDs.merge t (RDs.put hk hp u)
end
/-- the dict that a result is -/
def asDc (ρ : Env) (S : Store) : R → Option (List (P × P))
  | .v (.dct kvs) => some kvs
  | .v (.ref a) => match S a with
    | some (.dct kvs) => some kvs
    | _ => none
  | .loc i => match ρ[i]? with
    | some (.own (.dct kvs)) => some kvs
    | _ => none
  | _ => none
theorem Rel.asDc {G : Gm} {ρ : Env} {S : Store} {I : Hp} {σ : L2.St} {H : Hp} (R : Rel G ρ S I σ H) {r : D.R} {x : V} {kvs : List (P × P)} (rr : RR G I σ r x) (e : D.asDc ρ S r = some kvs) : ∃ a ds, x = .ref a ∧ H a = some (.dK ds) ∧ RDs G I kvs ds := by
  unfold D.asDc at e
  split at e
  · cases e
    obtain ⟨a, ds, rfl, h, t⟩ := rr
    exact ⟨a, ds, rfl, R.sr.imm _ _ h, t⟩
  · split at e
    · rename_i e2
      cases e
      cases rr
      obtain ⟨⟨ds, h, t⟩, _⟩ := R.sr.st _ _ e2
      exact ⟨_, ds, rfl, h, t⟩
    · cases e
  · split at e
    · rename_i e2
      cases e
      obtain ⟨a, h1, ⟨ds, h, t⟩, _⟩ := R.ow _ _ e2
      have : some (some x) = some (some (V.ref a)) := rr.symm.trans h1
      cases this
      exact ⟨a, ds, rfl, h, t⟩
    · cases e
  · cases e

/-! ### d[k]; k in d -/
def ixY (old : R → R → Env → Store → K1 → Prop) : R → R → Env → Store → K1 → Prop := fun a b ρ S k => match asDc ρ S a with
  | some kvs => match b with
    | .v q => (keyP q).isSome = true ∧ match valP kvs q with
      | some p => k p
      | none => False
    | .loc _ => False
  | none => old a b ρ S k
def inY (neg : Bool) (old : R → R → Env → Store → K1 → Prop) : R → R → Env → Store → K1 → Prop := fun b a ρ S k => match asDc ρ S a with
  | some kvs => match b with
    | .v q => (keyP q).isSome = true ∧ k (.bl (xor (valP kvs q).isSome neg))
    | .loc _ => False
  | none => old b a ρ S k
section
variable {X : Cx} {F I0 : Hp} {k : Nat} {tb : SpT} {pos : Pos}
theorem o_inY {old : R → R → Env → Store → K1 → Prop} (h : Op2 X (compareOp .In) old) (hu : X.A.units + 64 < cLine) : Op2 X (compareOp .In) (inY false old) := by
  intro F I0 pins s ρ S I σ τ H x y v u b a kk Q J R rb ra ry rx q post
  unfold inY at q
  split at q
  · rename_i kvs e
    split at q
    · rename_i p
      obtain ⟨q1, q⟩ := q
      obtain ⟨c, hc⟩ := Option.isSome_iff_exists.mp q1
      obtain ⟨rfl, hk⟩ := RK.of rb hc
      obtain ⟨ad, ds, rfl, hd, t⟩ := R.asDc ra e
      cases rx
      rw [Bool.xor_false] at q
      refine d_in (by omega) J (DGet.k (k := c) hd) ry fun s' J' => ⟨.bl _, H, J', rfl, post _ _ _ _ Le.refl R .mkB ?_⟩
      rcases RDs.val hk t with ⟨e1, e2⟩ | ⟨p, x, e1, e2, _⟩
      · rw [e1] at q; rw [e2]; exact q
      · rw [e1] at q; rw [e2]; exact q
    · exact q.elim
  · exact h F I0 pins s ρ S I σ τ H x y v u b a kk Q J R rb ra ry rx q post
theorem o_ninY {old : R → R → Env → Store → K1 → Prop} (h : Op2 X (compareOp .NotIn) old) (hu : X.A.units + 64 < cLine) : Op2 X (compareOp .NotIn) (inY true old) := by
  intro F I0 pins s ρ S I σ τ H x y v u b a kk Q J R rb ra ry rx q post
  unfold inY at q
  split at q
  · rename_i kvs e
    split at q
    · rename_i p
      obtain ⟨q1, q⟩ := q
      obtain ⟨c, hc⟩ := Option.isSome_iff_exists.mp q1
      obtain ⟨rfl, hk⟩ := RK.of rb hc
      obtain ⟨ad, ds, rfl, hd, t⟩ := R.asDc ra e
      cases rx
      rw [Bool.xor_true] at q
      refine d_notIn (by omega) J (DGet.k (k := c) hd) ry fun s' J' => ⟨.bl _, H, J', rfl, post _ _ _ _ Le.refl R .mkB ?_⟩
      rcases RDs.val hk t with ⟨e1, e2⟩ | ⟨p, x, e1, e2, _⟩
      · rw [e1] at q; rw [e2]; exact q
      · rw [e1] at q; rw [e2]; exact q
    · exact q.elim
  · exact h F I0 pins s ρ S I σ τ H x y v u b a kk Q J R rb ra ry rx q post
theorem d_ixY {a b : Expr} {Ta Tb : DT} (ha : DE F I0 X a Ta) (hb : DE F I0 X b Tb) (hu : X.A.units + 64 < cLine) (hs : PlainIx b := by exact fun _ _ => rfl) : DE F I0 X (.Subscript a b pos) (T2 (ixY ixD) Ta Tb) := by
  refine ⟨fun pins s σ H Q J h0 => ?_⟩
  have hI := weak2 (r := rD2 (gm F I0 X) (ixY ixD)) (fun _ _ _ _ h => h) σ H Q h0
  refine PyProof.Rows.Subscript_ (binT ha hb J hI fun v u s2 x y H2 J2 rx ry q => ?_)
  obtain ⟨ρ, S, I, σ', ra, rb, kk, R, rra, rrb, q, post⟩ := q
  unfold ixY at q
  split at q
  · rename_i kvs e
    split at q
    · rename_i p
      obtain ⟨q1, q⟩ := q
      obtain ⟨c, hc⟩ := Option.isSome_iff_exists.mp q1
      obtain ⟨rfl, hk⟩ := RK.of rrb hc
      obtain ⟨ad, ds, rfl, hd, t⟩ := R.asDc rra e
      cases rx
      split at q
      · rename_i pv e1
        rcases RDs.val hk t with ⟨e2, _⟩ | ⟨p, z, e2, e3, rp⟩
        · rw [e1] at e2; cases e2
        · rw [e1] at e2; cases e2
          have g : DGet H2 ad (kV c) (some z) := e3 ▸ DGet.k (k := c) hd
          have hT := dict_typeIs J2 g
          unfold PyProof.Rows.subscriptTail
          refine wpAny_bind ?_
          rw [getitemInPython_of_ne hT.not_modules]; refine wpAny_bind (wpAny_specialOf hT PySem.F.slot_dict_getitem.lookup ?_)
          have fin : wpAny (model X.prog X.w) X.A (subscripted b false (.ref ad) u) (fun r s₃ => wpAny (model X.prog X.w) X.A (letTemporaryGo a (.ref ad) r >>= fun _ => pure r) (EP X pins σ Q) X.xe s₃) X.xe s2 := by
            rw [hs _ _]
            exact wpAny_operating (wpAny_mono (d_getItem (by omega) J2 g ry fun w' s3 J3 rw' => ⟨z, H2, J3, rw', post _ _ _ _ Le.refl R rp q⟩) (fun r s₃ h₃ => wpAny_bind (wpAny_letTemporaryGo (wpAny_pure h₃))) fun _ _ x => x)
          first
            | (exact wpAny_pure (wpAny_bind fin))
            | (exact wpAny_bind (wpAny_pure (wpAny_bind fin)))
            | exact wpAny_bind fin
      · exact q.elim
    · exact q.elim
  · exact ix_seq a b pins s2 σ H2 x y v u Q J2 rx ry (l_ix F I0 ρ S I σ' H2 x y _ _ kk Q R rra rrb q post) (hs _ _)
end
/-! ### a | b -/
def orD : R → R → Env → Store → DQ → Prop := fun a b ρ S Q => match asDc ρ S a, asDc ρ S b with
  | some kvs, some more => kvs.length + more.length ≤ sizeLine ∧ Q (.v (.dct (mergeP kvs more))) ρ S
  | _, _ => False
def TOr2 (Ta Tb : DT) : DT := fun ρ S Q => Ta ρ S fun a ρ1 S1 => Tb ρ1 S1 fun b ρ2 S2 => orD a b ρ2 S2 Q
section
variable {X : Cx} {F I0 : Hp} {pos : Pos} {a b e : Expr} {Ta Tb T : DT}
theorem d_or2 (ha : DE F I0 X a Ta) (hb : DE F I0 X b Tb) : DE F I0 X (.BinOp a .BitOr b pos) (TOr2 Ta Tb) := by
  refine ⟨fun pins s σ H Q J h0 => ?_⟩
  obtain ⟨ρ, S, I, Q0, R, q, post⟩ := h0
  refine wpAny_BinOp (thn (ha.run pins s σ H (fun x H1 => ∃ r ρ1 S1 I1, Le I I1 ∧ Rel (gm F I0 X) ρ1 S1 I1 σ H1 ∧ RR (gm F I0 X) I1 σ r x ∧ _) J ⟨ρ, S, I, _, R, q, fun x H' r ρ' S' I' l R' rr q => ⟨r, ρ', S', I', l, R', rr, q⟩⟩) fun u s1 ⟨x, H1, J1, rx, r, ρ1, S1, I1, l, R1, rr, q1⟩ =>
    thn (hb.run pins s1 σ H1 (fun y H2 => ∃ r2 ρ2 S2 I2, Le I1 I2 ∧ Rel (gm F I0 X) ρ2 S2 I2 σ H2 ∧ RR (gm F I0 X) I2 σ r2 y ∧ _) J1 ⟨ρ1, S1, I1, _, R1, q1, fun x H' r ρ' S' I' l R' rr q => ⟨r, ρ', S', I', l, R', rr, q⟩⟩) fun v s2 ⟨y, H2, J2, ry, r2, ρ2, S2, I2, l2, R2, rr2, q2⟩ => ?_)
  unfold orD at q2
  split at q2
  · rename_i kvs more e1 e2
    obtain ⟨hz, q2⟩ := q2
    obtain ⟨ad, ds, rfl, hd, t⟩ := R2.asDc (rr.mono l2) e1
    obtain ⟨bd, es, rfl, he, t2⟩ := R2.asDc rr2 e2
    cases rx
    cases ry
    obtain ⟨z1, a1, vs, rel1, d1⟩ := dk_of J2.hok hd
    obtain ⟨z2, a2, ws, rel2, d2⟩ := dk_of J2.hok he
    have hz' : ds.length + es.length ≤ sizeLine := by rw [← t.length, ← t2.length]; exact hz
    refine dk_or a1 a2 d1 d2 (by rw [← rel1.length, ← rel2.length]; exact hz') fun h' hd' hk => ?_
    have hf : H2 s2.heap.objs.size = none := J2.hok.fresh (Nat.le_refl _)
    have hm : (mergeK ds es).length ≤ sizeLine := by
      have := length_mergeK es ds
      omega
    obtain ⟨l3, R3⟩ := R2.frz (o := .dK (mergeK ds es)) hf
    refine ⟨.ref s2.heap.objs.size, _, J2.laid (a := s2.heap.objs.size) (o := .dK (mergeK ds es)) (t' := s2.toks) (fun c u q => hk c u q) (Nat.le_refl _) (dk_new hm (beq_eq_false_iff_ne.mpr (Ne.symm (Nat.ne_of_lt J2.big))) (rel2.merge rel1) hd'), rfl, post _ _ (.v (.dct (mergeP kvs more))) _ _ _ (l.trans (l2.trans l3)) R3 ⟨_, mergeK ds es, rfl, upd_same, RDs.mono l3 _ _ (RDs.merge t2 t)⟩ q2⟩
  · exact q2.elim
end
/-! ### {k: v, ..} -/
def prsD : List (DT × DT) → Env → Store → (List (P × P) → Env → Store → Prop) → Prop
  | [], ρ, S, Q => Q [] ρ S
  | (tk, tv) :: r, ρ, S, Q => tk ρ S fun k ρ1 S1 => tv ρ1 S1 fun v ρ2 S2 => match k, v with
    | .v k, .v v => (keyP k).isSome = true ∧ prsD r ρ2 S2 fun ps ρ3 S3 => Q ((k, v) :: ps) ρ3 S3
    | _, _ => False
def NDct (trs : List (DT × DT)) : DNw := fun ρ S Q => prsD trs ρ S fun ps ρ1 S1 => ps.length ≤ 15 ∧ Q (.dct (mergeP [] ps)) ρ1 S1
abbrev DPs (F I0 : Hp) (X : Cx) (pos : Pos) (keys : List (Option Expr)) (values : List Expr) (trs : List (DT × DT)) : Prop := PPs X pos keys values (trs.map fun q => (eAny (gm F I0 X) q.1, eAny (gm F I0 X) q.2))
section
variable {X : Cx} {F I0 : Hp} {pos : Pos}
theorem dps_nil : DPs F I0 X pos [] [] [] := pps_nil
theorem dps_cons {k v : Expr} {ks : List (Option Expr)} {vs : List Expr} {tk tv : DT} {trs : List (DT × DT)} (hk : ∀ F, DE F I0 X k tk) (hv : ∀ F, DE F I0 X v tv) (hr : DPs F I0 X pos ks vs trs) : DPs F I0 X pos (some k :: ks) (v :: vs) ((tk, tv) :: trs) :=
  pps_cons ⟨fun p s σ H Q J ⟨F', q⟩ => (hk F').run p s σ H Q J q⟩ ⟨fun p s σ H Q J ⟨F', q⟩ => (hv F').run p s σ H Q J q⟩ hr
theorem prs_tr {F : Hp} {A : Addr} {σ : L2.St} (hA : F A = none) : ∀ (trs : List (DT × DT)) (ρ : Env) (S : Store) (I : Hp) (H : Hp) (Q0 : List (P × P) → Env → Store → Prop) (Q : List (V × V) → Hp → Prop), Rel ((gm F I0 X).up A (.dK [])) ρ S I σ H → prsD trs ρ S Q0 →
    (∀ ps ρ' S' I' H' (kvs : List (Key × V)), Le I I' → Rel ((gm F I0 X).up A (.dK [])) ρ' S' I' σ H' → RDs (gm F I0 X) I' ps kvs → Q0 ps ρ' S' → Q (kvs.map fun q => (kV q.1, q.2)) H') →
    tPairs (trs.map fun q => (eAny (gm F I0 X) q.1, eAny (gm F I0 X) q.2)) σ H Q
  | [], ρ, S, I, H, Q0, Q, R, q, fin => fin [] ρ S I H [] Le.refl R rfl q
  | (tk, tv) :: r, ρ, S, I, H, Q0, Q, R, q, fin => by
    refine ⟨upd F A (.dK []), ρ, S, I, _, R, q, fun x H1 k ρ1 S1 I1 l1 R1 rk q1 => ⟨upd F A (.dK []), ρ1, S1, I1, _, R1, q1, fun y H2 v ρ2 S2 I2 l2 R2 rv q2 => ?_⟩⟩
    split at q2
    · rename_i k v
      obtain ⟨h1, q2⟩ := q2
      obtain ⟨c, hc⟩ := Option.isSome_iff_exists.mp h1
      obtain ⟨rfl, hk⟩ := RK.of rk hc
      refine prs_tr hA r ρ2 S2 I2 H2 _ _ R2 q2 fun ps ρ' S' I' H' kvs l R' t q' => ?_
      exact fin ((k, v) :: ps) ρ' S' I' H' ((c, y) :: kvs) (l1.trans (l2.trans l)) R' ⟨c, y, kvs, rfl, hk, RP.gm (gm F I0 X) (RP.mono l _ _ rv) rfl, t⟩ q'
    · exact q2.elim
theorem n_dct {keys : List (Option Expr)} {values : List Expr} {trs : List (DT × DT)} (h : DPs F I0 X pos keys values trs) (hall : keys.all (·.isSome) = true := by rfl) (hl : keys.length = values.length := by rfl) (h0 : keys ≠ [] := by exact (fun z => nomatch z)) (h15 : keys.length ≤ 15 := by decide) : DN F I0 X (.Dict keys values pos) (NDct trs) := by
  refine ⟨fun pins s σ H Q J h1 => ?_⟩
  obtain ⟨ρ, S, I, Q0, R, q, post⟩ := h1
  refine (pe_disp h hall hl h0 h15).run pins s σ H Q J fun p hp => ?_
  obtain ⟨hF, hI, hS⟩ := R.unused hp
  refine prs_tr hF trs ρ S I _ _ _ (R.toF (u := .dK []) hp) q fun ps ρ' S' I' H' kvs l R' t q' => ?_
  obtain ⟨h15, q'⟩ := q'
  refine ⟨R'.held.1, kvs, rfl, by rw [← t.length]; exact h15, ?_⟩
  have hm : RDs (gm F I0 X) I' (mergeP [] ps) (mergeK [] kvs) := RDs.merge t rfl
  exact post p _ (.dct (mergeP [] ps)) (.dK (mergeK [] kvs)) ρ' S' I' l hF (R'.reF) ⟨_, upd_same, hm⟩ q'
end
end D
/-! D21: d[k] = v; dict comprehensions. -/
namespace D
open PySem PySem.Spec L2
theorem set_dict {X : Cx} (hu : X.A.units + 64 < cLine) : PSet X (fun o i v H Q => ∃ p ds c, o = .ref p ∧ i = kV c ∧ H p = some (.dK ds) ∧ ds.length < sizeLine ∧ Q (upd H p (.dK (putK ds c v)))) := by
  intro pins s σ H o i v ov iv u Q I ro ri rv h; obtain ⟨p, ds, c, rfl, rfl, hp, hz, q⟩ := h
  cases ro
  exact d_setItem (by omega) I (DPut.k (k := c) hp hz) ri rv fun s' I' => ⟨_, I', q⟩
theorem PSet.or {X : Cx} {t t' : TSet} (h : PSet X t) (h' : PSet X t') : PSet X (fun o i v H Q => t o i v H Q ∨ t' o i v H Q) := by
  intro pins s σ H o i v ov iv u Q I ro ri rv q
  rcases q with q | q
  · exact h pins s σ H o i v ov iv u Q I ro ri rv q
  · exact h' pins s σ H o i v ov iv u Q I ro ri rv q
def setDY (o i : R) (p : P) (ρ : Env) (S : Store) (Q : Env → Store → Prop) : Prop := match o, asDc ρ S o with
  | .loc j, some kvs => match i with
    | .v q => (keyP q).isSome = true ∧ kvs.length < sizeLine ∧ Q (ρ.set j (.own (.dct (putP kvs q p)))) S
    | .loc _ => False
  | .v (.ref a), some kvs => match i with
    | .v q => (keyP q).isSome = true ∧ kvs.length < sizeLine ∧ Q ρ (ups S a (.dct (putP kvs q p)))
    | .loc _ => False
  | _, some _ => False
  | _, none => setD o i p ρ S Q
def GSY (To Ti : DT) : DG := fun p ρ S Q => To ρ S fun o ρ1 S1 => Ti ρ1 S1 fun i ρ2 S2 => setDY o i p ρ2 S2 Q
section
variable {X : Cx} {F I0 : Hp} {pos : Pos} {W : Nat → Bool}
theorem g_sY {o i : Expr} {To Ti : DT} (hu : X.A.units + 64 < cLine) (ho : DE F I0 X o To) (hi : DE F I0 X i Ti) (ha : ∀ v, assign (.Subscript o i pos) X.env v = stSub o i pos X.env v := by intro _; rfl) : DGt F I0 X W (.Subscript o i pos) (GSY To Ti) := by
  refine (pg_sub ho hi (PSet.or set_list (set_dict hu)) ha).weak fun v σ H Q ⟨ρ, S, I, p, Q0, R, rp, q, post⟩ => ?_
  refine ⟨ρ, S, I, _, R, q, fun x H1 r ρ1 S1 I1 l1 R1 rr q1 => ⟨ρ1, S1, I1, _, R1, q1, fun y H2 r2 ρ2 S2 I2 l2 R2 rr2 q2 => ?_⟩⟩
  have rp2 := RP.mono (l1.trans l2) _ _ rp
  have rr := rr.mono l2
  have hset : ∀ {a : Addr} {k : Int} {xs : List P} {j : Nat}, x = .ref a → y = .int k → S2 a = some (.lst xs) → ixN xs.length k = some j → Q0 ρ2 (ups S2 a (.lst (xs.set j p))) → rSetL x y v H2 fun H3 => Q σ H3 := by
    rintro a k xs j rfl rfl e hj q2
    obtain ⟨⟨vs, h1, t⟩, _⟩ := R2.sr.st a _ e
    exact ⟨a, vs, k, j, rfl, rfl, h1, by rw [← t.length]; exact hj, post _ _ _ _ _ .refl (l1.trans l2) (R2.setSt e (o' := .lst (xs.set j p)) ⟨_, upd_same, t.set rp2 j⟩) q2⟩
  have hown : ∀ {i : Nat} {k : Int} {xs : List P} {j : Nat}, σ[i]? = some (some x) → y = .int k → ρ2[i]? = some (.own (.lst xs)) → ixN xs.length k = some j → Q0 (ρ2.set i (.own (.lst (xs.set j p)))) S2 → rSetL x y v H2 fun H3 => Q σ H3 := by
    rintro i k xs j rr rfl e hj q2
    obtain ⟨a, h0, ⟨vs, h1, t⟩, _⟩ := R2.ow i _ e
    have : some (some x) = some (some (V.ref a)) := rr.symm.trans h0
    cases this
    exact ⟨a, vs, k, j, rfl, rfl, h1, by rw [← t.length]; exact hj, post _ _ _ _ _ .refl (l1.trans l2) (R2.setOwn e h0 (o' := .lst (xs.set j p)) ⟨_, upd_same, t.set rp2 j⟩) q2⟩
  unfold setDY at q2
  split at q2
  · rename_i e
    split at q2
    · rename_i q0
      obtain ⟨h1, h2, q2⟩ := q2
      obtain ⟨c, hc⟩ := Option.isSome_iff_exists.mp h1
      obtain ⟨rfl, hk⟩ := RK.of rr2 hc
      unfold asDc at e
      simp only at e
      split at e
      · rename_i e2
        cases e
        obtain ⟨a, h0, ⟨ds, hd, t⟩, _⟩ := R2.ow _ _ e2
        have : some (some x) = some (some (V.ref a)) := rr.symm.trans h0
        cases this
        exact .inr ⟨a, ds, c, rfl, rfl, hd, by rw [← t.length]; exact h2, post _ _ _ _ _ .refl (l1.trans l2) (R2.setOwn e2 h0 (o' := .dct (putP _ q0 p)) ⟨_, upd_same, RDs.put hk rp2 t⟩) q2⟩
      · cases e
    · exact q2.elim
  · rename_i e
    split at q2
    · rename_i q0
      obtain ⟨h1, h2, q2⟩ := q2
      obtain ⟨c, hc⟩ := Option.isSome_iff_exists.mp h1
      obtain ⟨rfl, hk⟩ := RK.of rr2 hc
      unfold asDc at e
      simp only at e
      split at e
      · rename_i e2
        cases e
        obtain ⟨⟨ds, hd, t⟩, _⟩ := R2.sr.st _ _ e2
        exact .inr ⟨_, ds, c, rr, rfl, hd, by rw [← t.length]; exact h2, post _ _ _ _ _ .refl (l1.trans l2) (R2.setSt e2 (o' := .dct (putP _ q0 p)) ⟨_, upd_same, RDs.put hk rp2 t⟩) q2⟩
      · cases e
    · exact q2.elim
  · exact q2.elim
  · unfold setD at q2
    split at q2
    · split at q2
      · split at q2
        · exact .inl (hset rr rr2 (by assumption) (by assumption) q2)
        · exact q2.elim
      · exact q2.elim
    · split at q2
      · split at q2
        · exact .inl (hown rr rr2 (by assumption) (by assumption) q2)
        · exact q2.elim
      · exact q2.elim
    · exact q2.elim
end
/-! ### dict comprehensions -/
def dcL (St : Env → Store → Prop) (g : DG) (tt : DB) (tk tv : DT) (vs : List Nat) (Q : List (P × P) → Env → Store → Prop) : List P → List (P × P) → Env → Store → Prop
  | [], acc, ρ, S => St ρ S ∧ Q acc ρ S
  | p :: ps, acc, ρ, S => St ρ S ∧ g p ρ S fun ρ2 S2 => tt ρ2 S2 fun b ρ3 S3 =>
      if b = true then tk ρ3 S3 fun rk ρ4 S4 => tv ρ4 S4 fun rv ρ5 S5 => match rk, rv with
        | .v k, .v y => (keyP k).isSome = true ∧ dcL St g tt tk tv vs Q ps (putP acc k y) (wipeE ρ5 vs) S5
        | _, _ => False
      else dcL St g tt tk tv vs Q ps acc (wipeE ρ3 vs) S3
def NDc (src : DSrc) (g : DG) (tt : DB) (tk tv : DT) (vs : List Nat) : DNw := fun ρ S Q => src ρ S fun ps St ρ1 S1 => ps.length ≤ sizeLine ∧ dcL St g tt tk tv vs (fun acc => Q (.dct acc)) ps [] (wipeE ρ1 vs) S1
section
variable {X : Cx} {I0 : Hp} {pos : Pos}
theorem dc_tr {F : Hp} {src : DSrc} {g : DG} {tt : DB} {tk tv : DT} {vs : List Nat} : ∀ σ H Q, trN (gm F I0 X) (NDc src g tt tk tv vs) σ H Q → tDc (trI (gm F I0 X) src) (gAny (gm F I0 X) vs g) (bAny (gm F I0 X) tt) (eAny (gm F I0 X) tk) (eAny (gm F I0 X) tv) vs σ H Q := by
  intro σ H Q ⟨ρ, S, I, Q0, R, q, post⟩
  refine ⟨ρ, S, I, _, R, q, fun J H1 ρ1 S1 I1 ps St l1 R1 w q1 => fun A hA => ?_⟩
  obtain ⟨hps, q1⟩ := q1
  obtain ⟨hF, hI, hS⟩ := R1.unused hA
  let Inv' := fun (i m : Nat) (H : Hp) (qs : List P) (acc : List (P × P)) (ρ : Env) (S : Store) (I : Hp) (vs' : List (Key × V)) =>
    m = qs.length ∧ i + qs.length = ps.length ∧ ps.drop i = qs ∧ acc.length ≤ i ∧ wipeE ρ vs = ρ ∧ Le I1 I ∧ Rel ((gm F I0 X).up A (.dK vs')) ρ S I (wipe σ vs) H ∧ RDs (gm F I0 X) I acc vs' ∧ dcL St g tt tk tv vs (fun acc => Q0 (.dct acc)) qs acc ρ S
  refine ⟨fun i m H => ∃ qs acc ρ S I vs', Inv' i m H qs acc ρ S I vs', ⟨ps.length, ps, [], wipeE ρ1 vs, S1, I1, [], rfl, by simp, rfl, Nat.le_refl _, wipeE_twice _ _, Le.refl, ?_, rfl, q1⟩, ?_⟩
  · exact (R1.toF (u := .dK []) hA).wipe (wipe_length σ vs) fun i h => wipe_get h
  rintro i m H ⟨qs, acc, ρ, S, I2, vs', rfl, hl, hd, ha, hw, l2, R2, t2, q2⟩
  have w := w (upd F A (.dK vs'))
  cases qs with
  | nil =>
    obtain ⟨hst, q2⟩ := q2
    have e : i = ps.length := by simpa using hl
    subst e
    refine .inl ⟨w.stops ρ S I2 _ H l2 R2 hst, ?_⟩
    refine post A H (.dct acc) (.dK vs') ρ S I2 (l1.trans l2) hF ?_ ⟨vs', R2.held.1, RDs.cg rfl _ _ t2⟩ q2
    have := R2.wipe (σ' := σ) (vs := vs) (wipe_length σ vs).symm fun i h => (wipe_get h).symm
    rwa [hw] at this
  | cons p qs =>
    obtain ⟨hst, q2⟩ := q2
    have hi' : i < ps.length := by simp at hl; omega
    have hp' : ps[i]? = some p ∧ ps.drop (i + 1) = qs := by
      have e := List.drop_eq_getElem_cons hi'
      rw [hd] at e
      injection e with e1 e2
      exact ⟨by rw [List.getElem?_eq_getElem hi', e1], e2.symm⟩
    refine .inr ⟨w.goes i ρ S I2 _ H l2 R2 hst hi', fun H' => ∃ m', m' < (p :: qs).length ∧ ∃ qs' acc ρ S I vs', Inv' (i + 1) m' H' qs' acc ρ S I vs', fun H' h => h, fun x H' y => ?_⟩
    obtain ⟨p', I3, hp2, l3, R3, rp⟩ := w.ylds i ρ S I2 _ H x H' l2 R2 hst hi' y
    rw [hp'.1] at hp2; cases hp2
    refine ⟨upd F A (.dK vs'), ρ, S, I3, p, _, R3, rp, q2, fun σ4 H4 ρ4 S4 I4 o4 l4 R4 q4 => ⟨wipe_ext o4, upd F A (.dK vs'), ρ4, S4, I4, _, R4, q4, fun b H5 ρ5 S5 I5 l5 R5 q5 => ?_⟩⟩
    have hl5 : Le I1 I5 := l2.trans (l3.trans (l4.trans l5))
    have e4 : ∀ i, i ∉ vs → (wipe σ vs)[i]? = σ4[i]? := fun i h => (o4.keep i (by simpa [own] using h)).symm
    have hl4 : (wipe σ vs).length = σ4.length := o4.len.symm
    cases b with
    | false =>
      exact ⟨qs.length, Nat.lt_succ_self _, qs, acc, wipeE ρ5 vs, S5, I5, vs', rfl, by simp at hl; omega, hp'.2, by omega, wipeE_twice _ _, hl5, R5.wipe hl4 e4, RDs.mono (l3.trans (l4.trans l5)) _ _ t2, q5⟩
    | true =>
      rw [if_pos rfl] at q5
      show (fun σ H Q => ∃ F', tr (gm F' I0 X) tk σ H Q) σ4 H5 _
      refine ⟨upd F A (.dK vs'), ρ5, S5, I5, _, R5, q5, fun y H6 rk ρ6 S6 I6 l6 R6 rrk q6 => ?_⟩
      show (fun σ H Q => ∃ F', tr (gm F' I0 X) tv σ H Q) σ4 H6 _
      refine ⟨upd F A (.dK vs'), ρ6, S6, I6, _, R6, q6, fun z H7 rv ρ7 S7 I7 l7 R7 rrv q7 => ?_⟩
      split at q7
      · rename_i k' z'
        obtain ⟨hk1, q7⟩ := q7
        obtain ⟨c, hc⟩ := Option.isSome_iff_exists.mp hk1
        obtain ⟨rfl, hk⟩ := RK.of rrk hc
        have R7 : Rel ((gm F I0 X).up A (.dK vs')) ρ7 S7 I7 σ4 H7 := R7
        have hh := R7.held.1
        have hal := RDs.length t2
        have hlt : acc.length < sizeLine := by omega
        have hll := l3.trans (l4.trans (l5.trans (l6.trans l7)))
        have hpl : (putP acc k' z').length ≤ acc.length + 1 := by
          unfold putP
          split
          · rw [List.length_map]; omega
          · simp
        refine ⟨vs', c, rfl, hh, by omega, qs.length, Nat.lt_succ_self _, qs, putP acc k' z', wipeE ρ7 vs, S7, I7, putK vs' c z, rfl, by simp at hl; omega, hp'.2, by omega, wipeE_twice _ _, hl5.trans (l6.trans l7), (R7.reF (u' := .dK (putK vs' c z))).wipe hl4 e4, ?_, q7⟩
        exact RDs.put hk (RP.gm (gm F I0 X) rrv rfl) (RDs.mono hll _ _ t2)
      · exact q7.elim
theorem n_dc {F : Hp} {kx vx tg iter : Expr} {ifs : List Expr} {scope : Scope} {ow : List (Str × Nat)} {src : DSrc} {g : DG} {tt : DB} {tk tv : DT} (hc : X.calm = true) (hN : X.N.Nodup) (hi : DI F I0 X tg iter src) (ok : BlkOk X.N X.env.scope scope ow)
    (hg : ∀ (F : Hp) (s : Shared) (H : Hp) (C : Addr) (cl : List (Str × Addr)) (fp : List Addr), DGt F I0 (X.blk s H scope (compEnvC scope cl C X.env) fp) (own (ow.map (·.2))) tg g)
    (ht : ∀ (F : Hp) (s : Shared) (H : Hp) (C : Addr) (cl : List (Str × Addr)) (fp : List Addr), DTT F I0 (X.blk s H scope (compEnvC scope cl C X.env) fp) ifs tt)
    (hk : ∀ (F : Hp) (s : Shared) (H : Hp) (C : Addr) (cl : List (Str × Addr)) (fp : List Addr), DE F I0 (X.blk s H scope (compEnvC scope cl C X.env) fp) kx tk)
    (he : ∀ (F : Hp) (s : Shared) (H : Hp) (C : Addr) (cl : List (Str × Addr)) (fp : List Addr), DE F I0 (X.blk s H scope (compEnvC scope cl C X.env) fp) vx tv) (hs : ∀ x, foldedSetIterable iter X.env x = pure x := by intro _; rfl) :
    DN F I0 X (.DictComp kx vx [⟨tg, iter, ifs, 0⟩] scope pos) (NDc src g tt tk tv (ow.map (·.2))) := by
  exact (pe_dc (g := gAny (gm F I0 X) (ow.map (·.2)) g) (tt := bAny (gm F I0 X) tt) (tk := eAny (gm F I0 X) tk) (tv := eAny (gm F I0 X) tv) hc hN hi ok
    (fun s H C cl fp => ⟨fun p s' σ H v u Q J r ⟨F', q⟩ => (hg F' s _ C cl fp).run p s' σ H v u Q J r q⟩)
    (fun s H C cl fp => ⟨fun p s' σ H Q J ⟨F', q⟩ => (ht F' s _ C cl fp).run p s' σ H Q J q⟩)
    (fun s H C cl fp => ⟨fun p s' σ H Q J ⟨F', q⟩ => (hk F' s _ C cl fp).run p s' σ H Q J q⟩)
    (fun s H C cl fp => ⟨fun p s' σ H Q J ⟨F', q⟩ => (he F' s _ C cl fp).run p s' σ H Q J q⟩) hs).weak dc_tr
end
end D
/-! D22: zip(a, b, strict=..). -/
namespace PySem
open PySem PySem.Spec
abbrev ZipS (h : Heap) (z TI TO : Addr) (f0 : Value) : Prop := h.get? z = some { cls := .type "zip", dict := none, data := .fields #[f0, .bool false, .bool true, .ref TI, .ref TO], slots := #[] }
theorem F.typeCall_zip_s (a b c : Value) : checkTypeCall "zip" ⟨[a, b], [(Str.ofString "strict", c)]⟩ = pure () := by kernel_rfl
theorem F.newCall_zip_s (a b c : Value) : checkBuiltinCall "zip.__new__" ⟨[.type "zip", a, b], [(Str.ofString "strict", c)]⟩ = pure () := by kernel_rfl
theorem F.args_init_s (o a b c : Value) : argsOk "object.__init__" ⟨[o, a, b], [(Str.ofString "strict", c)]⟩ := by unfold argsOk; kernel_rfl
abbrev zsZ (h : Heap) (o1 o2 : Obj) (b : Bool) : Heap := (gzO2 h o1 o2).push { cls := .type "zip", data := .fields #[.none, .bool false, .bool b, .ref ((h.push o1).push o2).objs.size, .ref (gzT2 h o1 o2).objs.size] }
theorem meets_zip_s {v1 v2 : Value} {o1 o2 : Obj} {H1 H2 : Heap → Prop} (b : Bool) (B1 : Begins v1 o1 H1) (B2 : Begins v2 o2 H2) :
    Meets (Builtin.«zip.__new__» ⟨[.type "zip", v1, v2], [(Str.ofString "strict", .bool b)]⟩) (fun _ R s => (H1 s.heap ∧ H2 s.heap) ∧
      R (.ok (.ret (.ref (gzO2 s.heap o1 o2).objs.size))) { s with heap := zsZ s.heap o1 o2 b }) :=
  Meets.of_wp fun prog w A R s h => by
    obtain ⟨w0, g, d, tk, os⟩ := s; obtain ⟨⟨h1, h2⟩, h⟩ := h
    have hsub := sub_zip
    have q1 : ∀ {A' : Around} {E : Value → Shared → Prop} {Q : Value → Shared → Prop}, Q (.ref w0.objs.size) ⟨(w0.push o1), g, d, tk, os⟩ → wpAny (model prog w) A' (pyIter v1) Q E ⟨w0, g, d, tk, os⟩ :=
      fun q => B1.iter prog w _ _ ⟨w0, g, d, tk, os⟩ _ (B1.keeps _ _ h1 fun b o' e => e) q
    have q2 : ∀ {A' : Around} {E : Value → Shared → Prop} {Q : Value → Shared → Prop}, Q (.ref (w0.push o1).objs.size) ⟨((w0.push o1).push o2), g, d, tk, os⟩ → wpAny (model prog w) A' (pyIter v2) Q E ⟨(w0.push o1), g, d, tk, os⟩ :=
      fun q => B2.iter prog w _ _ ⟨(w0.push o1), g, d, tk, os⟩ _ (B2.keeps _ _ h2 fun b o' e => (Heap.get?_push_of_some _ e)) q
    have e2 : (Str.ofString "strict" != ("strict" : Str)) = false := by decide +kernel
    have e4 : (("strict" : Str) == Str.ofString "strict") = true := by decide +kernel
    cases b <;> (wp_walk using q1, q2; exact ⟨_, rfl, h⟩)
section
variable {prog : Program} {w : World} {A : Around} {s : Shared} {E : Value → Shared → Prop}
theorem zip_begins_s {v1 v2 : Value} {o1 o2 : Obj} {H1 H2 : Heap → Prop} {Q : Value → Shared → Prop} (b : Bool) (B1 : Begins v1 o1 H1) (B2 : Begins v2 o2 H2) (h1 : H1 s.heap) (h2 : H2 s.heap)
    (h : ∀ h', h'.get? (s.heap.objs.size + 4) = some { cls := .type "zip", dict := none, data := .fields #[.none, .bool false, .bool b, .ref (s.heap.objs.size + 2), .ref (s.heap.objs.size + 3)], slots := #[] } → IsTupOf2 h' (s.heap.objs.size + 2) (.ref s.heap.objs.size) (.ref (s.heap.objs.size + 1)) →
      IsTupOf2 h' (s.heap.objs.size + 3) .none .none → h'.get? s.heap.objs.size = some o1 → h'.get? (s.heap.objs.size + 1) = some o2 →
      (∀ b u, s.heap.get? b = some u → h'.get? b = some u) → Q (.ref (s.heap.objs.size + 4)) { s with heap := h' }) :
    wpAny (model prog w) A (call (.type "zip") [v1, v2] [(Str.ofString "strict", .bool b)]) Q E s := by
  refine callType_newKw F.called_zip (by decide) (F.typeCall_zip_s _ _ _) (F.newCall_zip_s _ _ _) (fun obj => F.args_init_s obj _ _ _) F.entry_zip_new (meets_zip_s b B1 B2) ⟨⟨h1, h2⟩, ?_⟩
  have n1 : (s.heap.push o1).objs.size = s.heap.objs.size + 1 := by rw [Heap.size_push]
  have n2 : ((s.heap.push o1).push o2).objs.size = s.heap.objs.size + 2 := by rw [Heap.size_push, n1]
  have nT : (gzT2 s.heap o1 o2).objs.size = s.heap.objs.size + 3 := by rw [Heap.size_push, n2]
  have nO : (gzO2 s.heap o1 o2).objs.size = s.heap.objs.size + 4 := by rw [Heap.size_push, nT]
  have gZ : (zsZ s.heap o1 o2 b).get? (gzO2 s.heap o1 o2).objs.size = some { cls := .type "zip", data := .fields #[.none, .bool false, .bool b, .ref ((s.heap.push o1).push o2).objs.size, .ref (gzT2 s.heap o1 o2).objs.size] } := Heap.get?_push_size _ rfl
  have gO : (zsZ s.heap o1 o2 b).get? (gzT2 s.heap o1 o2).objs.size = some { cls := .type "tuple", data := .seq #[.none, .none] } := Heap.get?_push_of_some _ (Heap.get?_push_size _ rfl)
  have gT : (zsZ s.heap o1 o2 b).get? ((s.heap.push o1).push o2).objs.size = some { cls := .type "tuple", data := .seq #[.ref s.heap.objs.size, .ref (s.heap.push o1).objs.size] } := Heap.get?_push_of_some _ (Heap.get?_push_of_some _ (Heap.get?_push_size _ rfl))
  have g1 : (zsZ s.heap o1 o2 b).get? s.heap.objs.size = some o1 := Heap.get?_push_of_some _ (Heap.get?_push_of_some _ (Heap.get?_push_of_some _ (Heap.get?_push_of_some _ (Heap.get?_push_size _ B1.free))))
  have g2 : (zsZ s.heap o1 o2 b).get? (s.heap.push o1).objs.size = some o2 := Heap.get?_push_of_some _ (Heap.get?_push_of_some _ (Heap.get?_push_of_some _ (Heap.get?_push_size _ B2.free)))
  rw [nO, nT, n2] at gZ
  rw [nT] at gO
  rw [n2, n1] at gT
  rw [n1] at g2
  show _ ∧ _
  rw [nO]
  exact ⟨⟨_, gZ, rfl⟩, h _ gZ gT gO g1 g2 fun c o e => Heap.get?_push_of_some _ (Heap.get?_push_of_some _ (Heap.get?_push_of_some _ (Heap.get?_push_of_some _ (Heap.get?_push_of_some _ e))))⟩
variable {z TI TO i1 i2 : Addr} {fp1 fp2 : List Addr} {n i : Nat} {P1 P2 : Nat → Value → Prop} {St1 St2 : Nat → Heap → Prop} {a1 a2 : Value}
theorem zs_or_item {it : Addr} {fp : List Addr} {Pp : Nat → Value → Prop} {St : Nat → Heap → Prop} {Q : Option Value → Shared → Prop} (D : Draws prog w A it fp n Pp St) (hi : i < n) (st : St i s.heap)
    (hQ : ∀ x h' tk, Pp i x → St (i + 1) h' → Heap.SameBut it s.heap h' → Q (some x) { s with heap := h', toks := tk }) : wpAny (model prog w) A (Builtin.SmallTypes.nextOrEnd (.ref it)) Q E s := by
  unfold Builtin.SmallTypes.nextOrEnd
  exact wpAny_bind (wpAny_attempt (D.item i s _ _ hi st fun x h' tk h1 h2 h3 => wpAny_pure (hQ x h' tk h1 h2 h3)))
theorem zs_or_end {it : Addr} {fp : List Addr} {Pp : Nat → Value → Prop} {St : Nat → Heap → Prop} {Q : Option Value → Shared → Prop} (D : Draws prog w A it fp n Pp St) (st : St n s.heap)
    (hQ : ∀ h', Heap.ExtBut it s.heap h' → Q none { s with heap := h' }) : wpAny (model prog w) A (Builtin.SmallTypes.nextOrEnd (.ref it)) Q E s := by
  unfold Builtin.SmallTypes.nextOrEnd
  refine wpAny_bind (wpAny_attempt (D.done s _ _ st fun h' e k he => ?_))
  obtain ⟨o, ho, hc⟩ := he
  exact wpAny_bind (wpAny_isInstance (T := "StopIteration") (b := true) ⟨o, ho, hc⟩ isSubtype_stop (wpAny_pure (hQ h' k)))
theorem zs_next {Q : Value → Shared → Prop} (S : ZipSep2 z TI TO i1 i2 fp1 fp2) (D1 : Draws prog w A i1 fp1 n P1 St1) (D2 : Draws prog w A i2 fp2 n P2 St2)
    (wz : ZipS s.heap z TI TO .none) (wI : IsTupOf2 s.heap TI (.ref i1) (.ref i2)) (wO : IsTupOf2 s.heap TO a1 a2) (wa : St1 i s.heap) (wb : St2 i s.heap) (hlt : i < n)
    (hQ : ∀ x1 x2 h' tk, P1 i x1 → P2 i x2 → ZipS h' z TI TO (rawInt s.heap.objs.size) → IsTupOf2 h' TO x1 x2 → St1 (i + 1) h' → St2 (i + 1) h' → IsTupOf2 h' s.heap.objs.size x1 x2 →
      (∀ b u, b ≠ z → b ≠ TO → b ≠ i1 → b ≠ i2 → s.heap.get? b = some u → h'.get? b = some u) → Q (.ref s.heap.objs.size) { s with heap := h', toks := tk }) :
    wpAny (model prog w) A (Builtin.«zip.__next__» ⟨[.ref z], []⟩) (fun f s' => ∃ v, f = .done (.ret v) ∧ Q v s') E s := by
  obtain ⟨w0, g, d, wt, os⟩ := s
  show wpAny _ _ (field (.ref z) 2 >>= _) _ _ _; refine wpAny_bind (wpAny_field wz rfl (x := .bool true) rfl ?_)
  show wpAny _ _ (field (.ref z) 3 >>= _) _ _ _; refine wpAny_bind (wpAny_field wz rfl (x := .ref TI) rfl (wpAny_bind (wpAny_seqItems wI rfl ?_)))
  show wpAny _ _ (Builtin.SmallTypes.ownedTupleIsFree (.ref z) >>= _) _ _ _; refine wpAny_bind ?_
  unfold Builtin.SmallTypes.ownedTupleIsFree; refine wpAny_bind (wpAny_field wz rfl (x := .none) rfl (wpAny_pure ?_))
  simp only [if_true]
  refine wpAny_bind (wpAny_rule (wpAny_bind (wpAny_field wz rfl (x := .ref TO) rfl (wpAny_bind (wpAny_setField_rec wz (by simp) fun g0 hz0 k0 => ?_)))))
  have hz0 : ZipS g0 z TI TO .ellipsis := hz0
  have k0 : Heap.SameBut z w0 g0 := k0
  refine wpAny_bind ?_
  simp only [List.zipIdx_cons, List.zipIdx_nil, List.forIn_cons, List.forIn_nil]; refine wpAny_bind (wpAny_bind (wpAny_onRaise ?_))
  show wpAny _ _ (Builtin.SmallTypes.nextOrEnd (.ref i1)) _ _ ⟨g0, g, d, wt, os⟩
  refine zs_or_item D1 hlt (D1.over wa k0 S.zf1) fun x1 p1 tk1 hx1 sn1 q01 => ?_
  have q01 : Heap.SameBut i1 g0 p1 := q01
  have wU1 : IsTupOf2 p1 TO a1 a2 := q01.extBut _ _ S.Ti1 (k0.extBut _ _ S.TOz wO)
  refine wpAny_bind (wpAny_seqItems (s := ⟨p1, g, d, tk1, os⟩) wU1 rfl (wpAny_bind (updateSeq_IsTupOf2 (s := ⟨p1, g, d, tk1, os⟩) wU1 fun g1 kT1 k01 => ?_)))
  have kT1 : IsTupOf2 g1 TO x1 a2 := kT1
  have k01 : Heap.SameBut TO p1 g1 := k01
  refine wpAny_bind (wpAny_letGo (wpAny_pure (wpAny_bind (wpAny_bind (wpAny_onRaise ?_)))))
  show wpAny _ _ (Builtin.SmallTypes.nextOrEnd (.ref i2)) _ _ ⟨g1, g, d, tk1, os⟩
  refine zs_or_item D2 hlt (D2.over (D2.over (D2.over wb k0 S.zf2) q01 S.sep1_2) k01 S.Tf2) fun x2 p2 tk2 hx2 sn2 q02 => ?_
  have q02 : Heap.SameBut i2 g1 p2 := q02
  have wU2 : IsTupOf2 p2 TO x1 a2 := q02.extBut _ _ S.Ti2 kT1
  refine wpAny_bind (wpAny_seqItems (s := ⟨p2, g, d, tk2, os⟩) wU2 rfl (wpAny_bind (updateSeq_IsTupOf2 (s := ⟨p2, g, d, tk2, os⟩) wU2 fun g2 kT2 k02 => ?_)))
  have kT2 : IsTupOf2 g2 TO x1 x2 := kT2
  have k02 : Heap.SameBut TO p2 g2 := k02
  refine wpAny_bind (wpAny_letGo (wpAny_pure (wpAny_pure (wpAny_bind (wpAny_seqItems (s := ⟨g2, g, d, tk2, os⟩) kT2 rfl (wpAny_bind (wpAny_newTuple ?_)))))))
  have wsz : g2.objs.size = w0.objs.size := by rw [k02.1, q02.1, k01.1, q01.1, k0.1]
  have hzz : ZipS g2 z TI TO .ellipsis := k02.extBut _ _ S.TOz.symm (q02.extBut _ _ S.zi2 (k01.extBut _ _ S.TOz.symm (q01.extBut _ _ S.zi1 hz0)))
  have wkk : ∀ c o, c ≠ z → c ≠ TO → c ≠ i1 → c ≠ i2 → w0.get? c = some o → g2.get? c = some o := fun c o cz cT c1 c2 e =>
    k02.extBut _ _ cT (q02.extBut _ _ c2 (k01.extBut _ _ cT (q01.extBut _ _ c1 (k0.extBut _ _ cz e))))
  have hj1 : St1 (i + 1) g2 := D1.over (D1.over (D1.over sn1 k01 S.Tf1) q02 S.sep2_1) k02 S.Tf1
  have hj2 : St2 (i + 1) g2 := D2.over sn2 k02 S.Tf2
  have wlt : z < g2.objs.size := Heap.lt_size hzz
  show wpAny _ _ (Builtin.SmallTypes.ownedTupleHandOut (.ref z) (.ref g2.objs.size) >>= _) _ _ ⟨g2.push { cls := .type "tuple", data := .seq #[x1, x2] }, g, d, tk2, os⟩; refine wpAny_bind ?_
  unfold Builtin.SmallTypes.ownedTupleHandOut; have y6 : ZipS (g2.push { cls := .type "tuple", data := .seq #[x1, x2] }) z TI TO .ellipsis := Heap.get?_push_of_some _ hzz
  refine wpAny_bind (wpAny_setField_rec y6 (by simp) fun h7 y7 hs7 => ?_)
  have y7 : ZipS h7 z TI TO (rawInt g2.objs.size) := y7
  refine wpAny_setField_rec y7 (by simp) fun h8 y8 hs8 => ?_
  have y8 : ZipS h8 z TI TO (rawInt g2.objs.size) := y8
  have hs7 : Heap.SameBut z (g2.push { cls := .type "tuple", data := .seq #[x1, x2] }) h7 := hs7
  have hs8 : Heap.SameBut z h7 h8 := hs8
  have up : ∀ c o, c ≠ z → g2.get? c = some o → h8.get? c = some o := fun c o c1 e => hs8.extBut _ _ c1 (hs7.extBut _ _ c1 (Heap.get?_push_of_some _ e))
  have t8 : IsTupOf2 h8 g2.objs.size x1 x2 := hs8.extBut _ _ (Nat.ne_of_gt wlt) (hs7.extBut _ _ (Nat.ne_of_gt wlt) (Heap.get?_push_size _ rfl))
  rw [wsz] at y8 t8
  refine wpAny_pure ⟨_, rfl, ?_⟩; show Q (.ref g2.objs.size) ⟨h8, g, d, tk2, os⟩
  rw [wsz]
  exact hQ x1 x2 h8 tk2 hx1 hx2 y8 (up _ _ S.TOz kT2) (D1.frame _ _ _ hj1 fun b hb o e => up b o (fun q => S.zf1 (q ▸ hb)) e) (D2.frame _ _ _ hj2 fun b hb o e => up b o (fun q => S.zf2 (q ▸ hb)) e) t8 fun c o cz cT c1 c2 e => up c o cz (wkk c o cz cT c1 c2 e)
theorem zs_end {Q : Fin → Shared → Prop} (hh : A.handled = none) (S : ZipSep2 z TI TO i1 i2 fp1 fp2) (D1 : Draws prog w A i1 fp1 n P1 St1) (D2 : Draws prog w A i2 fp2 n P2 St2)
    (wz : ZipS s.heap z TI TO .none) (wI : IsTupOf2 s.heap TI (.ref i1) (.ref i2)) (wO : IsTupOf2 s.heap TO a1 a2) (wa : St1 n s.heap) (wb : St2 n s.heap)
    (hE : ∀ h' tk e, (∀ b u, b ≠ z → b ≠ TO → b ≠ i1 → b ≠ i2 → s.heap.get? b = some u → h'.get? b = some u) → (∃ o, h'.get? e = some o ∧ o.cls = .type "StopIteration") → E (.ref e) { s with heap := h', toks := tk }) :
    (wpAny (model prog w) A (Builtin.«zip.__next__» ⟨[.ref z], []⟩) Q E s) := by
  obtain ⟨w0, g, d, wt, os⟩ := s
  show wpAny _ _ (field (.ref z) 2 >>= _) _ _ _; refine wpAny_bind (wpAny_field wz rfl (x := .bool true) rfl ?_)
  show wpAny _ _ (field (.ref z) 3 >>= _) _ _ _; refine wpAny_bind (wpAny_field wz rfl (x := .ref TI) rfl (wpAny_bind (wpAny_seqItems wI rfl ?_)))
  show wpAny _ _ (Builtin.SmallTypes.ownedTupleIsFree (.ref z) >>= _) _ _ _; refine wpAny_bind ?_
  unfold Builtin.SmallTypes.ownedTupleIsFree; refine wpAny_bind (wpAny_field wz rfl (x := .none) rfl (wpAny_pure ?_))
  simp only [if_true]
  refine wpAny_bind (wpAny_rule (wpAny_bind (wpAny_field wz rfl (x := .ref TO) rfl (wpAny_bind (wpAny_setField_rec wz (by simp) fun g0 hz0 k0 => ?_)))))
  have hz0 : ZipS g0 z TI TO .ellipsis := hz0
  have k0 : Heap.SameBut z w0 g0 := k0
  refine wpAny_bind ?_
  simp only [List.zipIdx_cons, List.zipIdx_nil, List.forIn_cons, List.forIn_nil]; refine wpAny_bind (wpAny_bind (wpAny_onRaise ?_))
  show wpAny _ _ (Builtin.SmallTypes.nextOrEnd (.ref i1)) _ _ ⟨g0, g, d, wt, os⟩
  refine zs_or_end D1 (D1.over wa k0 S.zf1) fun q1 k1 => ?_
  have k1 : Heap.ExtBut i1 g0 q1 := k1
  have hz1 : ZipS q1 z TI TO .ellipsis := k1 _ _ S.zi1 hz0
  refine wpAny_bind (wpAny_setField_rec (s := ⟨q1, g, d, wt, os⟩) hz1 (by simp) fun q2 _ k2 => ?_)
  have k2 : Heap.SameBut z q1 q2 := k2
  refine wpAny_bind ?_
  show wpAny (model prog w) A (
   do
    for (it, j) in (([Value.ref i1, Value.ref i2] : List Value).drop 1).zipIdx 1 do
      if (← Builtin.SmallTypes.nextOrEnd it).isSome then
        rule "zip.__next__.longer"; raiseError "ValueError" s!"zip() argument {j + 1} is longer than {if j == 1 then "argument 1" else s!"arguments 1-{j}"}"
    rule "zip.__next__.all-ended"; Builtin.SmallTypes.stopIteration : Sem Fin) _ _ _
  simp only [List.drop_succ_cons, List.drop_zero, List.zipIdx_cons, List.zipIdx_nil, List.forIn_cons, List.forIn_nil]
  refine wpAny_bind (wpAny_bind (wpAny_bind (zs_or_end (s := ⟨q2, g, d, wt, os⟩) D2 (D2.over (D2.frame _ _ _ (D2.over wb k0 S.zf2) fun b hb o e => k1 b o (fun x => S.sep1_2 (x ▸ hb)) e) k2 S.zf2) fun q3 k3 => ?_)))
  have k3 : Heap.ExtBut i2 q2 q3 := k3
  refine wpAny_ite (c := Option.isSome (none : Option Value) = true) ?_
  rw [if_neg (by simp)]
  refine wpAny_pure (wpAny_pure (wpAny_bind (wpAny_rule ?_)))
  show wpAny _ _ (newExc (.type "StopIteration") [] >>= _) _ _ _; refine wpAny_bind ?_
  simp only [newExc, newTuple]
  refine wpAny_bind (wpAny_newObj_type ?_ (by size_fits)); refine wpAny_bind (m := firstArgMember _ _) (wpAny_of_eq (a := Value.none) (by first | rfl | (simp only [firstArgMember]; rfl)) ?_)
  refine wpAny_newObj_type ?_ (by size_fits); simp only [raiseNew]
  refine wpAny_bind (wpAny_handled ?_); rw [hh]
  refine wpAny_bind (wpAny_pure (wpAny_throw ?_)); exact hE _ _ _ (fun c o cz cT c1 c2 e => Heap.get?_push_of_some _ (Heap.get?_push_of_some _ (k3 _ _ c2 (k2.extBut _ _ cz (k1 _ _ c1 (k0.extBut _ _ cz e)))))) ⟨_, Heap.get?_push_size _ rfl, rfl⟩
theorem zs_iter {f0 : Value} {Q : Value → Shared → Prop} (wz : ZipS s.heap z TI TO f0) (h : Q (.ref z) s) : wpAny (model prog w) A (pyIter (.ref z)) Q E s := by
  have wT : s.TypeIs (.ref z) "zip" := ⟨_, wz, rfl⟩
  refine wpAny_pyIter_slot wT F.slot_zip_iter (wpAny_call_entry F.slot_zip_iter wT F.entry_zip_iter ?_ (F.args_zip_iter_1 _))
  show wpAny _ _ (ret (.ref z)) _ _ s; exact wpAny_pure ⟨_, rfl, "zip", _, wT, F.slot_zip_next.lookup, h⟩
theorem zs_go {elts : List Expr} {x1} {pos : Pos} {T : Addr} {Q : Unit → Shared → Prop} (wz : ZipS s.heap z TI TO (rawInt T)) (hQ : ∀ h', ZipS h' z TI TO .none → Heap.SameBut z s.heap h' → Q () { s with heap := h' }) :
    (wpAny (model prog w) A (letOwnedTupleGo (.Tuple elts x1 pos) (.ref z) (.ref T)) Q E s) := by
  unfold letOwnedTupleGo
  refine wpAny_bind (wpAny_load wz ?_)
  show wpAny _ _ (if (
      ["enumerate", "zip", "dict_itemiterator", "dict_reverseitemiterator",
       "odict_iterator", "itertools.zip_longest", "itertools.pairwise"].contains "zip" &&
      (#[rawInt T, .bool false, .bool true, .ref TI, .ref TO] : Array Value)[0]? == some (rawInt T)) = true then _ else _) Q E s
  rw [if_pos (by simp)]
  refine wpAny_bind (wpAny_rule ?_); show wpAny _ _ (setField (.ref z) 0 .none) Q E s
  exact wpAny_setField_rec wz (by simp) fun h' wz' ks' => hQ h' wz' ks'
/-- zip(.., strict=True) over two iterators of the same length -/
theorem zs_walks (hh : A.in1.handled = none) (S : ZipSep2 z TI TO i1 i2 fp1 fp2) (D1 : Draws prog w A.in1 i1 fp1 n P1 St1) (D2 : Draws prog w A.in1 i2 fp2 n P2 St2) :
    WalksT prog w A z (z :: TI :: TO :: (fp1 ++ fp2)) [z, TO, i1, i2] n
      (fun i us => ∃ x1 x2, P1 i x1 ∧ P2 i x2 ∧ us = #[x1, x2])
      (fun i h => ZipS h z TI TO .none ∧ IsTupOf2 h TI (.ref i1) (.ref i2) ∧ (∃ a1 a2, IsTupOf2 h TO a1 a2) ∧ St1 i h ∧ St2 i h)
      (fun i T h => ZipS h z TI TO (rawInt T) ∧ IsTupOf2 h TI (.ref i1) (.ref i2) ∧ (∃ a1 a2, IsTupOf2 h TO a1 a2) ∧ St1 (i + 1) h ∧ St2 (i + 1) h ∧ T ≠ z ∧ T ≠ TO ∧ T ≠ i1 ∧ T ≠ i2) where
  sub := fun c hc => by
    have hc' : c = z ∨ c = TO ∨ c = i1 ∨ c = i2 := (by simpa using hc); rcases hc' with e | e | e | e
    · simp [e]
    · simp [e]
    · have := S.mem1; simp [e, this]
    · have := S.mem2; simp [e, this]
  frame := fun i h h' st hk => ⟨hk z (by simp) _ st.1, hk TI (by simp) _ st.2.1, st.2.2.1.imp fun a1 z => z.imp fun a2 z => hk TO (by simp) _ z,
    D1.frame _ _ _ st.2.2.2.1 fun b hb o e => hk b (by simp [hb]) o e, D2.frame _ _ _ st.2.2.2.2 fun b hb o e => hk b (by simp [hb]) o e⟩
  item := fun i s Q E hi ws hQ => by
    obtain ⟨wz, wI, ⟨a1, a2, wO⟩, wa, wb⟩ := ws
    have wT : s.TypeIs (.ref z) "zip" := ⟨_, wz, rfl⟩
    unfold pyNext
    refine wpAny_bind (wpAny_attempt (wpAny_callSpecial?_slot (name := Str.ofString "__next__") wT F.slot_zip_next (wpAny_call_entry F.slot_zip_next wT F.entry_zip_next
      (zs_next S D1 D2 wz wI wO wa wb hi fun x1 x2 h' tk y1 y2 b1 b2 d1 d2 b5 hk => wpAny_pure ?_) (F.args_zip_next_1 _))))
    have wl : ∀ {c o}, s.heap.get? c = some o → s.heap.objs.size ≠ c := fun e => Nat.ne_of_gt (Heap.lt_size e)
    obtain ⟨_, e1⟩ := D1.live _ _ wa
    obtain ⟨_, e2⟩ := D2.live _ _ wb
    refine hQ s.heap.objs.size #[x1, x2] h' tk ⟨x1, x2, y1, y2, rfl⟩ (Nat.le_refl _) ⟨_, b5, rfl, _, rfl⟩
      ⟨b1, hk _ _ S.TIz S.TITO S.TIi1 S.TIi2 wI, ⟨_, _, b2⟩, d1, d2, wl wz, wl wO, wl e1, wl e2⟩
      fun b u hb e => hk b u (fun x => hb (by simp [x])) (fun x => hb (by simp [x])) (fun x => hb (by simp [x])) (fun x => hb (by simp [x])) e
  go := fun elts k pos i T s Q E wm hQ => by
    obtain ⟨wz, wI, ⟨a1, a2, wO⟩, wa, wb, _⟩ := wm
    exact zs_go wz fun h' wz' ks' => hQ h' ⟨wz', ks'.extBut _ _ S.TIz wI, ⟨a1, a2, ks'.extBut _ _ S.TOz wO⟩, D1.over wa ks' S.zf1, D2.over wb ks' S.zf2⟩ fun c o hc e => ks'.extBut _ _ (fun x => hc (by simp [x])) e
  apart := fun i T h wm wT => by
    obtain ⟨_, _, _, _, _, dz, dT, t1, t2⟩ := wm
    have hT' : T = z ∨ T = TO ∨ T = i1 ∨ T = i2 := by simpa using wT
    rcases hT' with e | e | e | e
    · exact dz e
    · exact dT e
    · exact t1 e
    · exact t2 e
  done := fun s Q E ws hQ => by
    obtain ⟨wz, wI, ⟨a1, a2, wO⟩, wa, wb⟩ := ws
    have wT : s.TypeIs (.ref z) "zip" := ⟨_, wz, rfl⟩
    unfold pyNext
    refine wpAny_bind (wpAny_attempt (wpAny_callSpecial?_slot (name := Str.ofString "__next__") wT F.slot_zip_next (wpAny_call_entry F.slot_zip_next wT F.entry_zip_next
      (zs_end hh S D1 D2 wz wI wO wa wb fun h' tk e hk he => ?_) (F.args_zip_next_1 _))))
    obtain ⟨o, ho, hc⟩ := he
    exact wpAny_bind (wpAny_isInstance (T := "StopIteration") (b := true) ⟨o, ho, hc⟩ isSubtype_stop (wpAny_pure (hQ _ _ fun c o hc e =>
      hk c o (fun x => hc (by simp [x])) (fun x => hc (by simp [x])) (fun x => hc (by simp [x])) (fun x => hc (by simp [x])) e)))
  self := fun i s Q E ws hQ => zs_iter ws.1 hQ
theorem callT_kw {M : Model} {A : Around} {E : Value → Shared → Prop} {s : Shared} {T : String} {pos : Pos} {Q : Value → Shared → Prop} {args : List (Bool × Sem Value)} {kwd : List (Option Str × Sem Value)} (hplain : (args.any (·.1) || kwd.any (·.1.isNone)) = false)
    (h : wpAny M A (evalArgs (.type T) true args kwd) (fun z s₁ => wpAny M A (call (.type T) z.pos z.kw) Q E s₁) E s) : wpAny M A (callWith pos (.type T) [] args kwd) Q E s := by
  unfold callWith
  refine wpAny_bind (wpAny_holding (wpAny_mono h (fun z s₁ h₁ => wpAny_bind (wpAny_standAt ?_)) fun _ _ y => y)); simp only [hplain]
  refine wpAny_bind (wpAny_pure ?_); exact wpAny_bind (wpAny_mono h₁ (fun r s₂ hr => wpAny_bind (wpAny_holding (wpAny_point (wpAny_pure hr)))) fun _ _ y => y)
end
end PySem
namespace D
open PySem PySem.Spec L2
section
variable {P : Program} {w : World} {K : PySem.W.Frag}
theorem turn_zs {elts : List Expr} {kk : Nat} {tpos : Pos} {u u' : Value} {ob ob' : Obj} {adr adr' : List Addr} {vs ws : List V} {S S' : Hp → Prop} {own own' : Addr → Nat → Heap → Prop} (sr : Src P w K u ob adr vs S own) (sr' : Src P w K u' ob' adr' ws S' own') {z TI TO i1 i2 : Addr}
    (hlen : vs.length = ws.length) (h1 : i1 ∉ adr) (h2 : i2 ∉ adr') (sep : ZipSep2 z TI TO i1 i2 (i1 :: adr) (i2 :: adr')) :
    Turn P w K (.Tuple elts kk tpos) (ItN (rowsZ vs ws) fun H => S H ∧ S' H) [z, TI, TO, i1, i2] z (fun i h => ZipS h z TI TO .none ∧ IsTupOf2 h TI (.ref i1) (.ref i2) ∧ (∃ a1 a2, IsTupOf2 h TO a1 a2) ∧ own i1 i h ∧ own' i2 i h) := by
  refine turnN (fun r hr => ?_) (by simp) (fun i h st b hb => ?_) (fun i h h' st kk => ?_) (fun A i s Q E st h => zs_iter st.1 h) fun X pins σ H s i hP hw hK hc J hS st => ?_
  · unfold rowsZ at hr
    obtain ⟨i, hi⟩ := List.mem_iff_getElem?.mp hr
    rw [List.getElem?_zipWith] at hi
    split at hi
    · cases hi; show 2 ≤ sizeLine; decide
    · cases hi
  · obtain ⟨q1, q2, ⟨a1, a2, q3⟩, q4, q5⟩ := st
    have e' : b = z ∨ b = TI ∨ b = TO ∨ b = i1 ∨ b = i2 := by simpa using hb
    rcases e' with e | e | e | e | e
    · rw [e]; exact ⟨_, q1, fun v q => nomatch q⟩
    · rw [e]; exact ⟨_, q2, fun v q => nomatch q⟩
    · rw [e]; exact ⟨_, q3, fun v q => nomatch q⟩
    · rw [e]; exact sr.obj i1 i h q4
    · rw [e]; exact sr'.obj i2 i h q5
  · obtain ⟨q1, q2, ⟨a1, a2, q3⟩, q4, q5⟩ := st
    exact ⟨kk z (by simp) _ q1, kk TI (by simp) _ q2, ⟨a1, a2, kk TO (by simp) _ q3⟩, sr.keep i1 i h h' q4 fun o q => kk i1 (by simp) o q, sr'.keep i2 i h h' q5 fun o q => kk i2 (by simp) o q⟩
  · obtain ⟨src, k1, dr, _⟩ := sr.draws X pins σ H s i1 hP hw hK hc J hS.1 h1
    obtain ⟨src', k2, dr', _⟩ := sr'.draws X pins σ H s i2 hP hw hK hc J hS.2 h2
    subst hP hw hK
    refine ⟨z :: TI :: TO :: ((i1 :: adr) ++ (i2 :: adr')), [z, TO, i1, i2], fun i h => ZipS h z TI TO .none ∧ IsTupOf2 h TI (.ref i1) (.ref i2) ∧ (∃ a1 a2, IsTupOf2 h TO a1 a2) ∧ (own i1 i h ∧ src h) ∧ own' i2 i h ∧ src' h, ?_, ⟨st.1, st.2.1, st.2.2.1, ⟨st.2.2.2.1, k1⟩, ⟨st.2.2.2.2, k2⟩⟩, fun j h q => ⟨q.1, q.2.1, q.2.2.1, q.2.2.2.1.1, q.2.2.2.2.1⟩, fun b hb => by simp at hb ⊢; rcases hb with q | q | q | q <;> simp [q]⟩
    have hl : (rowsZ vs ws).length = vs.length := by unfold rowsZ; rw [List.length_zipWith, ← hlen, Nat.min_self]
    rw [hl]
    have G := GoesN.ofWalksT (elts := elts) (k := kk) (pos := tpos) (zs_walks (J.ok.hd hc) sep dr (hlen ▸ dr'))
    refine G.mono fun i h₀ v h _ ⟨T, vals, ev, hT, ⟨x, y, ⟨p, hp, rp⟩, ⟨q, hq, rq⟩, evs⟩, hI⟩ => ⟨T, [x, y], [p, q], ev, hT, ?_, .cons rp (.cons rq .nil), by rw [evs] at hI; exact hI⟩
    unfold rowsZ
    rw [List.getElem?_zipWith, hp, hq]
end
section
variable {X : Cx} {tg : Expr} {pins : List (Addr × Obj)} {σ : L2.St} {H : Hp} {s : Shared} {R : It → Hp → Prop} {E : Value → Shared → Prop}
theorem pieZs {elts : List Expr} {kk : Nat} {tpos : Pos} {u u' : Value} {ob ob' : Obj} {adr adr' : List Addr} {vs ws : List V} {S S' : Hp → Prop} {own own' : Addr → Nat → Heap → Prop} (b : Bool) (sr : Src X.prog X.w X.K u ob adr vs S own) (sr' : Src X.prog X.w X.K u' ob' adr' ws S' own') (J : Inv X pins σ H s) (hS : S H) (hS' : S' H)
    (hlen : b = true → vs.length = ws.length) (q : R (ItN (rowsZ vs ws) fun H => S H ∧ S' H) H) :
    wpAny (model X.prog X.w) X.A (call (.type "zip") [u, u'] [("strict", .bool b)]) (fun v s1 => wpAny (model X.prog X.w) X.A (pyIter v) (PIE X pins σ (.Tuple elts kk tpos) R) E s1) E s := by
  obtain ⟨⟨Hh, B, hH⟩, ho⟩ := sr.begins X pins σ H s rfl J hS
  obtain ⟨⟨Hh', B', hH'⟩, ho'⟩ := sr'.begins X pins σ H s rfl J hS'
  have fr : ∀ b, s.heap.objs.size ≤ b → FpOk X pins H b := fun b hb => J.fpOk hb (J.hok.fresh hb)
  have fr5 : ∀ b ∈ [s.heap.objs.size + 4, s.heap.objs.size + 2, s.heap.objs.size + 3, s.heap.objs.size, s.heap.objs.size + 1], FpOk X pins H b := fun b hb => by
    have hb5 : b = s.heap.objs.size + 4 ∨ b = s.heap.objs.size + 2 ∨ b = s.heap.objs.size + 3 ∨ b = s.heap.objs.size ∨ b = s.heap.objs.size + 1 := by simpa using hb
    exact fr b (by omega)
  refine zip_begins_s b B B' hH hH' fun h' hz hTI hTO h1 h2 hk => ?_
  cases b with
  | false =>
    refine wpAny_pyIter_zip hz ⟨s.heap.objs.size + 4, [s.heap.objs.size + 4, s.heap.objs.size + 2, s.heap.objs.size + 3, s.heap.objs.size, s.heap.objs.size + 1], _, _, H, rfl, J.kept (t' := s.toks) hk,
      turn_zi sr sr' (notMem_old ho (Nat.le_refl _)) (notMem_old ho' (Nat.le_succ _)) (zip_sep2 ho ho'), ⟨hz, hTI, ⟨_, _, hTO⟩, sr.start _ _ h1, sr'.start _ _ h2⟩, fr5, q⟩
  | true =>
    refine zs_iter hz ⟨s.heap.objs.size + 4, [s.heap.objs.size + 4, s.heap.objs.size + 2, s.heap.objs.size + 3, s.heap.objs.size, s.heap.objs.size + 1], _, _, H, rfl, J.kept (t' := s.toks) hk,
      turn_zs sr sr' (hlen rfl) (notMem_old ho (Nat.le_refl _)) (notMem_old ho' (Nat.le_succ _)) (zip_sep2 ho ho'), ⟨hz, hTI, ⟨_, _, hTO⟩, sr.start _ _ h1, sr'.start _ _ h2⟩, fr5, q⟩
end
/-- zip(a, b, strict=..) -/
def IZs (B : DA2) : DSrc := fun ρ S Q => B ρ S fun rs qs ρ1 S1 => match rs, qs with
  | [.v p, .v q], [.v (.bl b)] => match asI p, asI q with
    | some xs, some ys => (b = true → xs.length = ys.length) ∧ Q (zipP xs ys) Tr ρ1 S1
    | _, _ => False
  | _, _ => False
section
variable {X : Cx} {F I0 : Hp} {p pos tpos : Pos} {es elts : List Expr} {kws : List Keyword} {kk : Nat} {B : DA2}
theorem i_zs (hg : Gl X "zip") (hm : X.mg "zip" = none) (hB : DCw F I0 X pos es kws ["strict"] B) : DI F I0 X (.Tuple elts kk tpos) (.Call (.Name "zip" p) es kws pos) (IZs B) := by
  refine ⟨fun pins s σ H Rz J q => ?_⟩
  obtain ⟨ρ, S, I, Q0, R, q, post⟩ := q
  refine wpAny_Call_Name_kw (ld_blt J hg hm PyProof.Rows.boot_zip (callT_kw hB.plain (hB.run _ pins s σ H ρ S I _ _ J R q fun us ws xs zs rs qs ρ1 S1 I1 H1 s1 l J1 R1 rx rz rr rq q => ?_)))
  split at q
  · split at q
    · rename_i p p' b _ _ ps qs e e'
      obtain ⟨x, _, rfl, h1, y, _, rfl, h2, rfl⟩ := rr
      obtain ⟨z, _, rfl, h3, rfl⟩ := rq
      cases h3
      obtain ⟨u, u', rfl, ru, ru'⟩ := rx.two
      obtain ⟨uz, rfl, rz1⟩ := rz.one
      cases rz1
      obtain ⟨hl, q⟩ := q
      obtain ⟨ob, adr, vs, Sx, own, sr, hs, t⟩ := src_of (G := gm F I0 X) h1 e ru
      obtain ⟨ob', adr', vs', Sx', own', sr', hs', t'⟩ := src_of (G := gm F I0 X) h2 e' ru'
      exact pieZs b sr sr' J1 (hs H1 R1.sr.imm) (hs' H1 R1.sr.imm) (fun hb => by rw [← t.length, ← t'.length]; exact hl hb) (post _ _ _ _ _ _ _ l R1 (fun F' => walkZ hs hs' (RPs.gm { gm F I0 X with F := F' } t rfl) (RPs.gm { gm F I0 X with F := F' } t' rfl)) q)
    · exact q.elim
  · exact q.elim
end
end D
/-! D23: list.extend; constants that are tuples; facts of classes. -/
namespace D
open PySem PySem.Spec L2
def extD : MOp := fun r rs ρ S k => match rs with
  | [b] => match asL0 ρ S b with
    | some ys => wrL r ρ S (fun xs g => xs.length + ys.length ≤ sizeLine ∧ g (xs ++ ys)) fun ρ S => k .non ρ S
    | none => False
  | _ => False
section
variable {X : Cx} {F I0 : Hp} {x : Str} {pos : Pos} {p : P}
theorem m_extend : LkM X "list" rExtend tyL extD where
  ty := fun F I0 ρ S I σ H x r R rr h => ty_list R rr h
  op := fun F I0 ρ S I σ H x xs r rs k Q R rr rrs q post => by
    unfold extD at q
    split at q
    · split at q
      · rename_i ys e
        obtain ⟨y, _, rfl, h1, rfl⟩ := rrs
        obtain ⟨b, zs, rfl, hb, tz⟩ := R.asL0 h1 e
        obtain ⟨a, xs, vs, rfl, h2, t, g, ⟨q1, q2⟩, q3⟩ := wrL_ok R rr q
        obtain ⟨ρ', S', q4, R'⟩ := q3 _ q2 (vs ++ zs) (t.append tz)
        exact ⟨a, b, vs, zs, rfl, rfl, h2, hb, by rw [← t.length, ← tz.length]; exact q1, post _ _ _ _ _ _ Le.refl R' .mkN q4⟩
      · exact q.elim
    · exact q.elim
theorem d_extend {o e : Expr} {To : DT} {A : DA} {apos cpos : Pos} (ho : DE F I0 X o To) (ha : DAs F I0 X [e] A)
    (hbase : BaseOk X o "extend" := by rfl) (hfew : FewOk X cpos [e] := by rfl) (hline : (apos.endLine == cpos.line) = true := by rfl) (hs : StOk X e [] := by rfl) (hplain : PlOk X cpos [] := by rfl) :
    DE F I0 X (.Call (.Attribute o "extend" apos) [e] [] cpos) (TM tyL extD To A) :=
  d_bm PySem.F.plainAttrs_list PySem.F.slot_list_extend PySem.F.type_list_extend mt_extend m_extend ho ha hbase hfew hline hs hplain
/-- a constant of the module that is an object -/
theorem dgt (h : X.mg x = some (.ref (cA X.K x)) ∧ ∀ (G : Gm) (I : Hp), G.K = X.K → RP G I p (.ref (cA X.K x))) (hg : Gl X x := by rfl) (hd : (x == ("__debug__" : Str)) = false := by decide) : DE F I0 X (.Name x pos) (TC p) :=
  d_glob (v := .ref (cA X.K x)) hg h.1 rfl (fun _ _ => h.2 _ _ rfl) hd
end
/-! ### how a call binds -/
theorem Made.kb {K : PySem.W.Frag} {f : Addr} {fd : FuncData} {name qual : Str} {st : Stmt} {ps : List Str} (M : Made K f fd name qual st []) (ks : List Str) (n : Nat) (src : List Arg) (h : ∀ (kV doc pm : Value) (an : Option Addr) (cdv ct : Value) (us ws : List Value), us.length = n → ws.length = ks.length →
    bindArgs (PySem.W.fnOf name qual (defArgs st) (defBody st) (defScope st) .none kV doc pm an cdv ct) ⟨us, ks.zip ws⟩ = pure (ps.zip (arr us ws [] src))) : ∃ dV dU, KB K fd ps ks n src dU ∧ DfR K [] dV dU := ⟨[], [], kb0 M ks n src h, DfR.nil⟩
theorem Made.kbd {K : PySem.W.Frag} {f : Addr} {fd : FuncData} {name qual : Str} {st : Stmt} {ps : List Str} {dvs : List V} {ds : List P} (M : Made K f fd name qual st dvs) (ks : List Str) (n : Nat) (src : List Arg) (hd : dvs ≠ []) (rp : ∀ (G : Gm) (I : Hp), RPs G I ds dvs) (h : ∀ (T : Addr) (kV doc pm : Value) (an : Option Addr) (cdv ct : Value) (us ws its : List Value), us.length = n → ws.length = ks.length → its.length = dvs.length →
    ∃ k, bindArgs (PySem.W.fnOf name qual (defArgs st) (defBody st) (defScope st) (.ref T) kV doc pm an cdv ct) ⟨us, ks.zip ws⟩ = seqItems? (.ref T) >>= k ∧ k (some its.toArray) = pure (ps.zip (arr us ws its src))) : ∃ dV dU, KB K fd ps ks n src dU ∧ DfR K ds dV dU := by
  obtain ⟨its, rT, kb⟩ := kb1 M ks n src hd h
  exact ⟨dvs, its, kb, ⟨rT, fun G I _ => rp G I⟩⟩
/-- a method's contract -/
def MCal (P : Program) (w : World) (K : PySem.W.Frag) (mg : Str → Option Value) (base : Heap) (k : Nat) (g : Addr) (name qual : Str) (ps : List Str) (st : Stmt) (dvs : List V) (d : DSp) : Prop :=
  ∃ fd, Made K g fd name qual st dvs ∧ Fd P w K mg base (L2.CX P w) k g fd ps (lift K w d)
section
variable {P : Program} {w : World} {K : PySem.W.Frag} {mg : Str → Option Value} {base : Heap} {j k : Nat} {g : Addr} {name qual : Str} {ps ks : List Str} {st : Stmt} {dvs : List V} {d : DSp} {n : Nat} {src : List Arg} {ds : List D.P}
theorem MCal.ck (C : MCal P w K mg base j g name qual ps st dvs d) (h : j ≤ k) (hb : ∀ {fd : FuncData}, Made K g fd name qual st dvs → ∃ dV dU, KB K fd ps ks n src dU ∧ DfR K ds dV dU) : CallKOk P w K mg base k g d ks n src ds := by
  obtain ⟨fd, M, F⟩ := C
  obtain ⟨dV, dU, h1, h2⟩ := hb M
  exact ⟨fd, ps, dV, dU, h1, h2, F.mono h⟩
theorem MCal.co (C : MCal P w K mg base j g name qual ps st [] d) (h : j ≤ k) (hb : ∀ {fd : FuncData}, Made K g fd name qual st [] → Binds K fd ps []) : CallOk P w K mg base k g d [] := by
  obtain ⟨fd, M, F⟩ := C
  exact ⟨fd, ps, [], [], hb M, DfR.nil, F.mono h⟩
end
/-! ### facts of the text as Bools -/
/-- where a def of a class stands: plain; behind a property, a class method, a static method -/
abbrev aM (K : PySem.W.Frag) (C m : Str) : Addr := He.ma K (cA K C) m
abbrev aW (K : PySem.W.Frag) (T : String) (C m : Str) : Addr := He5.wf K (cA K C) T m
def clsB (K : PySem.W.Frag) (c : Str) : Bool := PySem.W.plainGet K (cA K c) Str.empty && (PySem.W.hasDictIn K (cA K c) && (PySem.W.plainOver K (cA K c) && decide (PySem.W.findIn K (.ref (cA K c)) "__setattr__" = some (some (.builtin "object.__setattr__")))))
theorem cls_of {K : PySem.W.Frag} {c : Str} (h : clsB K c = true) : Cls K (cA K c) := by
  unfold clsB at h
  simp only [Bool.and_eq_true, decide_eq_true_eq] at h; exact ⟨h.1, h.2.1, h.2.2.1, h.2.2.2⟩
def noatB (K : PySem.W.Frag) (c f : Str) : Bool := decide (PySem.W.findIn K (.ref (cA K c)) f = some none)
theorem noat_of {K : PySem.W.Frag} {c f : Str} (h : noatB K c f = true) : NoAttr K (cA K c) f := of_decide_eq_true (p := PySem.W.findIn K (.ref (cA K c)) f = some none) h
def conB (K : PySem.W.Frag) (c f : Str) (v : V) : Bool := match PySem.W.findIn K (.ref (cA K c)) f with
  | some (some u) => He.relB v u && (decide (PySem.W.specialIn K u "__get__" = some none) && !PySem.W.copiedNames.contains f)
  | _ => false
theorem con_of {K : PySem.W.Frag} {c f : Str} {v : V} (h : conB K c f v = true) : ∃ u, Con K (cA K c) f v u := by
  unfold conB at h
  split at h
  · rename_i u e
    simp only [Bool.and_eq_true, decide_eq_true_eq] at h; exact ⟨u, e, He.relB_ok h.1, h.2.1, by simpa using h.2.2⟩
  · cases h
def methB (K : PySem.W.Frag) (c m : Str) (g : Addr) : Bool := decide (PySem.W.findIn K (.ref (cA K c)) m = some (some (.ref g))) && (PySem.W.isFn K (.ref g) && PySem.W.keepIn K (.ref g))
theorem meth_of {K : PySem.W.Frag} {c m : Str} {g : Addr} (h : methB K c m g = true) : Meth K (cA K c) m g := by
  unfold methB at h
  simp only [Bool.and_eq_true, decide_eq_true_eq] at h; exact ⟨h.1, h.2.1, h.2.2⟩
def propB (K : PySem.W.Frag) (c f : Str) (g : Addr) : Bool := decide (PySem.W.findIn K (.ref (cA K c)) f = some (some (.ref (aM K c f)))) && (decide (PySem.W.specialIn K (.ref (aM K c f)) "__get__" = some (some (.builtin "property.__get__"))) && (decide (PySem.W.takesIn K (.ref (aM K c f)) = some true) && match PySem.W.recIn K (aM K c f) "property" with
  | some (.ref a :: _) => decide (a = g)
  | _ => false))
theorem prop_of {K : PySem.W.Frag} {c f : Str} {g : Addr} (h : propB K c f g = true) : ∃ p, PropOf K (cA K c) f p g := by
  unfold propB at h
  simp only [Bool.and_eq_true, decide_eq_true_eq] at h; obtain ⟨h1, h2, h3, h4⟩ := h
  refine ⟨aM K c f, h1, h2, h3, ?_⟩
  split at h4
  · rename_i a r e
    rw [of_decide_eq_true h4] at e
    exact ⟨r, e⟩
  · cases h4
def mkB (K : PySem.W.Frag) (c : Str) (g : Addr) : Bool := PySem.W.makesIn K (cA K c) && (decide (PySem.W.findIn K (.ref (cA K c)) "__init__" = some (some (.ref g))) && (PySem.W.isFn K (.ref g) && PySem.W.keepIn K (.ref (cA K c))))
theorem mk_of {K : PySem.W.Frag} {c : Str} {g : Addr} (h : mkB K c g = true) : Mk K (cA K c) g := by
  unfold mkB at h
  simp only [Bool.and_eq_true, decide_eq_true_eq] at h; exact ⟨h.1, h.2.1, h.2.2.1, h.2.2.2⟩
def spB (K : PySem.W.Frag) (c m : Str) (g : Addr) : Bool := decide (PySem.W.findIn K (.ref (cA K c)) m = some (some (.ref g))) && (PySem.W.isFn K (.ref g) && PySem.W.fnIn K g)
theorem sp_of {K : PySem.W.Frag} {c m : Str} {g : Addr} (h : spB K c m g = true) : PySem.W.findIn K (.ref (cA K c)) m = some (some (.ref g)) ∧ PySem.W.isFn K (.ref g) = true ∧ PySem.W.fnIn K g = true := by
  unfold spB at h
  simp only [Bool.and_eq_true, decide_eq_true_eq] at h; exact h
theorem callo_of {K : PySem.W.Frag} {c : Str} {g : Addr} (h : spB K c "__call__" g = true) : StX.CallO K (cA K c) g := ⟨(sp_of h).1, (sp_of h).2.1, (sp_of h).2.2⟩
end D
/-! D24: the head: facts of the text as Bools, defs at any address. -/
namespace D
open PySem PySem.Spec L2
abbrev FxB := PySem.W.Frag → Bool
def obsZ (ex : List FxB) (fn : List He5.DefA) (K : PySem.W.Frag) : He.AlD := ((ex.all fun f => f K) && fn.all fun d => d.ok K, fn.map fun d => He5.fnA K (d.at_ K))
def valZ (fn : List He5.DefA) : He.AlD := (true, fn.map He5.DefA.val)
/-- what the module's names reach: functions, their code; classes, their names' tables, what stands there -/
def rfDict (o : Obj) : List Addr := match o.data with
  | .dict es _ => es.toList.flatMap fun e => He.refV e.val
  | _ => []
def rf1 (o : Obj) : List Addr := match o.data with
  | .func fd => He.refV fd.code ++ He.refV fd.defaults
  | .cls cd => [cd.ns]
  | _ => []
def rfRec (o : Obj) : List Addr := match o.data with
  | .func fd => He.refV fd.code ++ He.refV fd.defaults
  | .fields vs => vs.toList.flatMap He.refV
  | _ => []
def rfFn (o : Obj) : List Addr := match o.data with
  | .func fd => He.refV fd.code
  | _ => []
def ap (g : Addr → Option Obj) (f : Obj → List Addr) (as : List Addr) : List Addr := as.flatMap fun a => match g a with
  | some o => f o
  | none => []
def l1 (g : Addr → Option Obj) := ap g rfDict [mainGlobals]
def l2 (g : Addr → Option Obj) := ap g rf1 (l1 g)
def l3 (g : Addr → Option Obj) := ap g rfDict (l2 g)
def l4 (g : Addr → Option Obj) := ap g rfRec (l3 g)
def l5 (g : Addr → Option Obj) := ap g rfFn (l4 g)
def asZ (g : Addr → Option Obj) : List Addr := mainGlobals :: (l1 g ++ (l2 g ++ (l3 g ++ (l4 g ++ (l5 g ++ [cStatics])))))
def obsZG (n : Nat) (ex : List FxB) (fn : List He5.DefA) (g : Addr → Option Obj) : He.AlD := obsZ ex fn (He.frT g (asZ g))
def hookZ (n : Nat) (ex : List FxB) (fn : List He5.DefA) : PySem.W.Hook where
  α := He.AlD
  obs := fun s => obsZG n ex fn s.heap.get?
  val := fun _ => valZ fn
  says := fun _ h => ∃ K : PySem.W.Frag, K.In h ∧ obsZ ex fn K = valZ fn
  of := fun _ _ e => ⟨_, He.frT_in, e⟩
  keeps := fun _ _ _ ⟨K, KX, e⟩ old => ⟨K, PySem.W.Frag.In.keeps KX old, e⟩
theorem obsZG_eq {n : Nat} {ex : List FxB} {fn : List He5.DefA} {g : Addr → Option Obj} {s : Shared} (h : ∀ a, g a = s.heap.get? a) : obsZG n ex fn g = (hookZ n ex fn).obs s := by
  have e : g = s.heap.get? := funext h; rw [e] <;> rfl
section
variable {ex : List FxB} {fn : List He5.DefA} {K : PySem.W.Frag} {h : Heap} {mg : Str → Option Value}
theorem zfact (c : obsZ ex fn K = valZ fn) (i : Nat) {f : FxB} (hi : ex[i]? = some f := by rfl) : f K = true := by
  have c1 := (Bool.and_eq_true_iff.mp (show ((ex.all fun f => f K) && fn.all fun d => d.ok K) = true from congrArg (fun z : He.AlD => z.1) c)).1
  exact List.all_eq_true.mp c1 f (List.mem_of_getElem? hi)
theorem zdef (c : obsZ ex fn K = valZ fn) (i : Nat) {d : He5.DefA} (hi : fn[i]? = some d := by rfl) : ∃ fd, L2.FunD K d.name d.qual d.params d.body d.scope (d.dvs K) (d.kws K) (d.at_ K) fd := by
  have c2 := (Bool.and_eq_true_iff.mp (show ((ex.all fun f => f K) && fn.all fun d => d.ok K) = true from congrArg (fun z : He.AlD => z.1) c)).2
  have e : fn.map (fun d => He5.fnA K (d.at_ K)) = fn.map He5.DefA.val := congrArg (fun z : He.AlD => z.2) c
  have e2 : (fn.map fun d => He5.fnA K (d.at_ K))[i]? = (fn.map He5.DefA.val)[i]? := by rw [e]
  rw [List.getElem?_map, List.getElem?_map, hi] at e2
  exact He5.DefA.funD (Option.some.inj e2) (List.all_eq_true.mp c2 d (List.mem_of_getElem? hi))
theorem zint (X : K.In h) (G : h.Ns mainGlobals mg) {x : Str} {i : Int} (c : (He.Fa.int x i).ok K = true) : ∃ u, mg x = some u ∧ RelV (.int i) u := by
  obtain ⟨t, e⟩ := He.int_ok X G c
  exact ⟨_, e, t, rfl⟩
theorem zstr (X : K.In h) (G : h.Ns mainGlobals mg) {x z : Str} (c : (He.Fa.str x z).ok K = true) : ∃ u, mg x = some u ∧ RelV (.str z) u := by
  obtain ⟨t, e⟩ := He.str_ok X G c
  exact ⟨_, e, t, rfl⟩
/-- a constant that is a tuple of flat data -/
def bareB (K : PySem.W.Frag) (a : Addr) : Bool := match K.lookup a with
  | some o => o.dict.isNone
  | none => false
theorem tupN_ok {K : PySem.W.Frag} {x : Str} {vs : List He.Dv} (h : He.tupB K x vs = true) (b : bareB K (cA K x) = true) (I : Hp) : SqN K I (cA K x) (vs.map (He.Dv.v K)) := by
  rcases He.tupB_ok h (fun _ => none) with (e | ⟨o, e⟩) | ⟨o, its, n, h1, h2, h3⟩
  · cases e
  · cases e
  · unfold bareB at b
    rw [show K.lookup (cA K x) = some o from h1] at b
    exact .inr ⟨o, its, n, h1, ⟨h2, by simpa using b⟩, h3⟩
def tupZ (x : Str) (vs : List He.Dv) : FxB := fun K => (He.Fa.glo x).ok K && (He.tupB K x vs && bareB K (cA K x))
theorem ztup (X : K.In h) (G : h.Ns mainGlobals mg) {x : Str} {vs : List He.Dv} {ps : List D.P} (c : tupZ x vs K = true) (hp : ∀ (G : Gm) (I : Hp), G.K = K → RPs G I ps (vs.map (He.Dv.v K))) :
    mg x = some (.ref (cA K x)) ∧ ∀ (G : Gm) (I : Hp), G.K = K → RP G I (.tup ps) (.ref (cA K x)) := by
  unfold tupZ at c
  obtain ⟨c1, c2⟩ := Bool.and_eq_true_iff.mp c
  obtain ⟨c2, c3⟩ := Bool.and_eq_true_iff.mp c2
  refine ⟨He.glo_ok X G c1, fun G I hG => ⟨cA K x, vs.map (He.Dv.v K), rfl, ?_, hp G I hG⟩⟩
  subst hG
  exact tupN_ok c2 c3 I
end
end D
/-! D25: a tuple times 1; tuple.index; class methods' facts. -/
namespace L2
open PyProof.Rows PySem PySem.Spec
theorem tuple_once (l : Addr) (items : Array Value) (n : Nat) (dd : Option Addr) (sl : Array (Option Value)) (u : Tok) :
    Meets (Builtin.«tuple.__mul__» ⟨[.ref l, .int 1 u], []⟩) (fun _ R s => s.heap.get? l = some { cls := .type "tuple", dict := dd, data := .seq items n, slots := sl } ∧ R (.ok (.ret (.ref l))) s) :=
  Meets.of_wp fun prog w A R s h => by
    obtain ⟨w0, g, d, tk, os⟩ := s
    obtain ⟨hl, h⟩ := h
    have f1 := AutoSeq1.idx_int
    have c0 : (decide ((1 : Int) < -(2 ^ 63)) || decide ((1 : Int) ≥ 2 ^ 63)) = false := by decide
    have c1 : (items.isEmpty || ((1 : Int) == 1)) = true := by rw [show ((1 : Int) == 1) = true from rfl, Bool.or_true]
    (wp_walk using wpAny_loadPart' hl)
    repeat (first
      | (refine wpAny_ite_false (decide_eq_false (by rw [c0]; decide)) ?_; wp_walk using wpAny_loadPart' hl)
      | (refine wpAny_ite_true (decide_eq_true c1) ?_; wp_walk using wpAny_loadPart' hl))
    exact ⟨_, rfl, h⟩
def rOnce (K : PySem.W.Frag) : R2 := fun x y H Q => ∃ l xs, x = .ref l ∧ y = .int 1 ∧ SqT K H l xs ∧ Q (.ref l) H
theorem op_once {X : Cx} : OpR X (binaryOp .Mult) (rOnce X.K) := by
  intro pins s σ H x y v u Q J rx ry ⟨l, xs, e1, e2, hT, q⟩
  subst e1 e2
  cases rx
  obtain ⟨t, rfl⟩ := ry
  obtain ⟨its, r, ⟨⟨cls, dd, data, sl⟩, ho, ec, n, ed⟩, hs⟩ := J.tuple hT
  simp only at ec ed
  subst ec ed
  exact wpAny_binaryOp_repeat_ref (T := "tuple") (U := "int") (by decide) ⟨_, ho, rfl⟩ (fun s' => typeIs_int s' 1 t) noFill_tuple_mul F.fills_int_mul F.slot_int_rmul repeat_tuple F.slot_int_index.lookup
    (call_meets F.slot_int_rmul (typeIs_int s 1 t) F.entry_int_rmul (F.args_int_rmul_2 _ _) (int_rmul_tuple 1 t l its.toArray n dd sl)
      ⟨ho, rfl, ⟨_, ho, rfl⟩, call_meets F.slot_tuple_mul ⟨_, ho, rfl⟩ F.entry_tuple_mul (F.args_tuple_mul_2 _ _) (tuple_once l its.toArray n dd sl t) ⟨ho, .ref l, H, J, rfl, q⟩⟩)
end L2
namespace D
open PySem PySem.Spec L2
def mulY : R → R → Env → Store → K1 → Prop := fun a b ρ S k => match a, b with
  | .v (.tup xs), .v (.int j) => if j = 1 then k (.tup xs) else mulD a b ρ S k
  | _, _ => mulD a b ρ S k
theorem o_mulY {X : Cx} : Op2 X (binaryOp .Mult) mulY := by
  intro F I0 pins s ρ S I σ τ H x y v u a b kk Q J R ra rb rx ry q post
  unfold mulY at q
  split at q
  · rename_i xs j
    split at q
    · rename_i e
      subst e
      cases rb
      have ra0 := ra
      obtain ⟨l, vs, rfl, h1, t1⟩ := ra
      exact op_once pins s τ H _ _ v u Q J rx ry ⟨l, vs, rfl, rfl, R.sr.imm.sqt h1.sqt, post _ _ (.tup xs) _ Le.refl R ra0 q⟩
    · exact o_mul F I0 pins s ρ S I σ τ H x y v u _ _ kk Q J R ra rb rx ry q post
  · exact o_mul F I0 pins s ρ S I σ τ H x y v u _ _ kk Q J R ra rb rx ry q post
/-! ### class methods -/
def cmB (K : PySem.W.Frag) (c m : Str) (g : Addr) : Bool := PySem.W.readsIn K (cA K c) (.type "type") && (decide (PySem.W.specialIn K (.ref (cA K c)) "__getattribute__" = some (some (.builtin "type.__getattribute__"))) &&
  (He5.wrapB K (cA K c) "classmethod" "classmethod.__get__" m && (decide (He5.wf K (cA K c) "classmethod" m = g) && PySem.W.fnIn K g)))
theorem cm_of {K : PySem.W.Frag} {c m : Str} {g : Addr} (h : cmB K c m g = true) : ∃ mc p, ClX.CRead K (cA K c) mc ∧ ClX.CMet K (cA K c) mc m p g := by
  unfold cmB at h
  simp only [Bool.and_eq_true, decide_eq_true_eq] at h; obtain ⟨h1, h2, h3, h4, h5⟩ := h
  obtain ⟨q1, q2⟩ := He5.wrapB_ok h3
  rw [h4] at q2
  exact ⟨.type "type", _, ⟨h1, h2⟩, ⟨q1, q2, h5⟩⟩
end D
/-! D26: join, f-strings. -/
namespace D
open PySem PySem.Spec L2
def strsOf : List P → Option (List Str)
  | [] => some []
  | .str s :: r => (strsOf r).map (s :: ·)
  | _ :: _ => none
theorem strsOf_rp {G : Gm} {I : Hp} : ∀ {ps : List P} {ss : List Str} {vs : List V}, strsOf ps = some ss → RPs G I ps vs → vs = ss.map V.str ∧ ∀ s ∈ ss, PyData.strOk s = true
  | [], _, _, e, r => by cases e; cases r; exact ⟨rfl, fun s hs => nomatch hs⟩
  | p :: ps, ss, _, e, ⟨x, q, e2, h, t⟩ => by
    cases p <;> first
      | (exfalso; simp [strsOf] at e; done)
      | skip
    simp only [strsOf] at e
    obtain ⟨zs, e3, rfl⟩ := Option.map_eq_some_iff.mp e
    obtain ⟨k1, k2⟩ := strsOf_rp e3 t
    refine ⟨by rw [e2, h.1, k1]; rfl, fun s hs => ?_⟩
    rcases (List.mem_cons.mp hs) with rfl | hs
    · exact h.2.2
    · exact k2 s hs
theorem join_ok {a : Str} (ha : PyData.strOk a = true) : ∀ ys : List Str, (∀ y ∈ ys, PyData.strOk y = true) → PyData.strOk (Str.join a ys) = true
  | [], _ => (by decide +kernel : PyData.strOk Str.empty = true)
  | [z], h => h z (List.mem_cons_self ..)
  | x :: y :: r, h => by
    show PyData.strOk ((x ++ a) ++ Str.join a (y :: r)) = true
    exact cat_strOk (cat_strOk (h x (List.mem_cons_self ..)) ha) (join_ok ha (y :: r) fun z hz => h z (List.mem_cons_of_mem _ hz))
abbrev tyS : Env → Store → R → Prop := fun _ _ r => ∃ s, r = .v (.str s)
/-- sep.join(texts) -/
def joinD : MOp := fun r rs ρ S k => match r, rs with
  | .v (.str a), [b] => match asQ ρ S b with
    | some ps => match strsOf ps with
      | some ys => (ys.map (·.length)).sum + ys.length * a.length ≤ 16000000 ∧ k (.str (Str.join a ys)) ρ S
      | none => False
    | none => False
  | _, _ => False
section
variable {X : Cx} {F I0 : Hp}
theorem ty_str {F I0 : Hp} {ρ : Env} {S : Store} {I : Hp} {σ : L2.St} {H : Hp} {x : V} {r : D.R} (rr : RR (gm F I0 X) I σ r x) (h : tyS ρ S r) : tyV X.K "str" x H := by
  obtain ⟨s, rfl⟩ := h
  cases rr.1
  exact rfl
theorem m_join : LkM X "str" (fun x xs H Q => ∃ a p, ∃ ys : List Str, x = .str a ∧ xs = [.ref p] ∧ (SqL X.K H p (ys.map V.str) ∨ SqT X.K H p (ys.map V.str)) ∧ (ys.map (·.length)).sum + ys.length * a.length ≤ 16777216 ∧ Q (.str (Txt.join a ys)) H) tyS joinD where
  ty := fun F I0 ρ S I σ H x r _ rr h => ty_str rr h
  op := fun F I0 ρ S I σ H x xs r rs k Q R rr rrs q post => by
    unfold joinD at q
    split at q
    · rename_i a b
      split at q
      · rename_i ps e
        split at q
        · rename_i ys e2
          obtain ⟨hz, q⟩ := q
          cases rr.1
          obtain ⟨y, _, rfl, h1, rfl⟩ := rrs
          obtain ⟨p, vs, rfl, hs, t⟩ := R.asQ h1 e
          obtain ⟨rfl, k2⟩ := strsOf_rp e2 t
          have hl := StrLaws.join_length_le a ys
          have e3 : Txt.join a ys = Str.join a ys := StrLaws.glued_eq_join a ys
          refine ⟨_, p, ys, rfl, rfl, hs, by omega, ?_⟩
          rw [e3]
          exact post _ _ (.str (Str.join a ys)) _ _ _ Le.refl R (RP.mkS (G := gm F I0 X) (I := I) (by rw [sizeLine_eq]; omega) (join_ok rr.2.2 ys k2)) q
        · exact q.elim
      · exact q.elim
    · exact q.elim
theorem d_join {o e : Expr} {To : DT} {A : DA} {apos cpos : Pos} (ho : DE F I0 X o To) (ha : DAs F I0 X [e] A)
    (hbase : BaseOk X o "join" := by rfl) (hfew : FewOk X cpos [e] := by rfl) (hline : (apos.endLine == cpos.line) = true := by rfl) (hs : StOk X e [] := by rfl) (hplain : PlOk X cpos [] := by rfl) :
    DE F I0 X (.Call (.Attribute o "join" apos) [e] [] cpos) (TM tyS joinD To A) :=
  d_bm PySem.F.plainAttrs_str PySem.F.slot_str_join PySem.F.type_str_join mt_join m_join ho ha hbase hfew hline hs hplain
/-! ### f-strings -/
def TFmt (t : DT) : DT := fun ρ S Q => t ρ S fun r ρ1 S1 => match r with
  | .v (.str y) => Q (.v (.str y)) ρ1 S1
  | .v (.int i) => i.natAbs.log2 < 1920 ∧ Q (.v (.str (numS i))) ρ1 S1
  | _ => False
theorem d_fmt {e : Expr} {T : DT} {pos : Pos} (he : DE F I0 X e T) : DE F I0 X (.FormattedValue e (-1) none pos) (TFmt T) := by
  refine (pe_fmt he).weak fun σ H Q ⟨ρ, S, I, Q0, R, q, post⟩ => ?_
  refine ⟨ρ, S, I, _, R, q, fun x H1 r ρ1 S1 I1 l R1 rr q => ?_⟩
  split at q
  · rename_i y
    cases rr.1
    exact .inl ⟨y, rfl, rr.2.1, post _ _ (.v (.str y)) _ _ _ l R1 rr q⟩
  · rename_i i
    cases rr
    exact .inr ⟨i, rfl, q.1, post _ _ (.v (.str (numS i))) _ _ _ l R1 (RP.mkS (G := gm F I0 X) (I := I1) (int_text_fits q.1) (strOk_str _)) q.2⟩
  · exact q.elim
def fjD : List DT → Str → Env → Store → (Str → Env → Store → Prop) → Prop
  | [], acc, ρ, S, Q => Q acc ρ S
  | t :: ts, acc, ρ, S, Q => t ρ S fun r ρ1 S1 => match r with
    | .v (.str y) => (acc ++ y).length ≤ sizeLine ∧ fjD ts (acc ++ y) ρ1 S1 Q
    | _ => False
def TFj (ts : List DT) : DT := fun ρ S Q => fjD ts Str.empty ρ S fun out ρ1 S1 => Q (.v (.str out)) ρ1 S1
abbrev DJ (F I0 : Hp) (X : Cx) (es : List Expr) (ts : List DT) : Prop := L2.PJ X es (ts.map (tr (gm F I0 X)))
theorem dj_nil : DJ F I0 X [] [] := .nil
theorem dj_cons {e : Expr} {t : DT} {es : List Expr} {ts : List DT} (h : DE F I0 X e t) (r : DJ F I0 X es ts) : DJ F I0 X (e :: es) (t :: ts) := .cons h r
theorem fj_tr {σ : L2.St} : ∀ (ts : List DT) (acc : Str) (ρ : Env) (S : Store) (I : Hp) (H : Hp) (Q0 : Str → Env → Store → Prop) (Q : Str → Hp → Prop), PyData.strOk acc = true → acc.length ≤ sizeLine → Rel (gm F I0 X) ρ S I σ H → fjD ts acc ρ S Q0 →
    (∀ out ρ' S' I' H', Le I I' → Rel (gm F I0 X) ρ' S' I' σ H' → PyData.strOk out = true → out.length ≤ sizeLine → Q0 out ρ' S' → Q out H') → tJs (ts.map (tr (gm F I0 X))) acc σ H Q
  | [], acc, ρ, S, I, H, Q0, Q, h1, h2, R, q, fin => fin acc ρ S I H Le.refl R h1 h2 q
  | t :: ts, acc, ρ, S, I, H, Q0, Q, h1, h2, R, q, fin => by
    refine ⟨ρ, S, I, _, R, q, fun x H1 r ρ1 S1 I1 l R1 rr q => ?_⟩
    split at q
    · rename_i y
      cases rr.1
      exact ⟨y, rfl, q.1, fj_tr ts (acc ++ y) ρ1 S1 I1 H1 Q0 Q (cat_strOk h1 rr.2.2) q.1 R1 q.2 fun out ρ' S' I' H' l2 => fin out ρ' S' I' H' (l.trans l2)⟩
    · exact q.elim
theorem d_fj {v1 v2 : Expr} {rest : List Expr} {ts : List DT} {pos : Pos} (h : DJ F I0 X (v1 :: v2 :: rest) ts) : DE F I0 X (.JoinedStr (v1 :: v2 :: rest) pos) (TFj ts) := by
  refine (pe_joined h).weak fun σ H Q ⟨ρ, S, I, Q0, R, q, post⟩ => ?_
  exact fj_tr ts Str.empty ρ S I H _ _ (by decide +kernel) (Nat.zero_le _) R q fun out ρ' S' I' H' l R' h1 h2 q => post _ _ (.v (.str out)) _ _ _ l R' (RP.mkS (G := gm F I0 X) (I := I') h2 h1) q
end
end D
/-! D27: bool(x) of an instance by its __len__. -/
namespace PySem.W
open PySem Builtin PySem.Calls PyProof.Rows
section
variable {w : World} {prog : Program} {A : Around} {E : Value → Shared → Prop} {s : Shared} {K : Frag} {x C L f : Addr} {h₀ : Heap} {m : Str → Option Value} {ox : Obj} {od : Option Obj}
theorem truthy_len {Q : Bool → Shared → Prop} (X : K.In s.heap) (I : InstAt s.heap x ox C od) (hb : findIn K (.ref C) "__bool__" = some none) (hs : findIn K (.ref C) "__len__" = some (some (.ref f))) (hf : isFn K (.ref f) = true)
    (h : wpAny (model prog w) A.in1 (call (.ref f) [.ref x]) (LenBack fun v s' => ∃ n t, v = .int n t ∧ Q (n != 0) s') E s) : wpAny (model prog w) A (truthy (.ref x)) Q E s := by
  unfold truthy
  refine wpAny_bind (m := callSpecial? (.ref x) (Str.ofString "__bool__")) (wpAny_bind (wpAny_bind (I.type.here ((looks_findIn X hb).here (wpAny_pure ?_)))))
  refine wpAny_bind (wpAny_bind (I.type.here ((looks_findIn X hs).here ?_))); refine wpAny_bind (m := runValue (.builtin "len" ⟨[.ref x], []⟩)) (wpAny_runValue (codeAny_builtin entry_len ?_))
  rw [Around.under_plainId plain_len _]; unfold Builtin.«len»
  refine wpAny_bind (m := oneArg "len" _) (wpAny_pure ?_); refine wpAny_bind (m := callSpecial? (.ref x) (Str.ofString "__len__")) (special_fn X I hs (beq_iff_eq.mp hf) (wpAny_mono h (fun r s' hr => ?_) fun _ _ y => y))
  cases r <;> first | exact hr.elim | skip; rename_i n u
  obtain ⟨⟨h0, h1⟩, hq⟩ := hr
  refine wpAny_bind (wpAny_holding (wpAny_pure ?_)); refine wpAny_bind (wpAny_letGo ?_)
  show wpAny _ _ (if n < 0 then _ else _) _ _ _; rw [if_neg (by omega)]
  show wpAny _ _ (if n ≥ 2 ^ 63 then _ else _) _ _ _; rw [if_neg (by omega)]
  refine wpAny_bind (wpAny_mkInt (wpAny_pure ?_))
  obtain ⟨n', t, e, q⟩ := hq
  cases e
  exact wpAny_pure q
theorem bool_call {Q : Value → Shared → Prop} (X : K.In s.heap) (I : InstAt s.heap x ox C od) (hb : findIn K (.ref C) "__bool__" = some none) (hs : findIn K (.ref C) "__len__" = some (some (.ref f))) (hf : isFn K (.ref f) = true)
    (h : wpAny (model prog w) A.in1.in1.in1 (call (.ref f) [.ref x]) (LenBack fun v s' => ∃ n t, v = .int n t ∧ Q (.bool (n != 0)) s') E s) : wpAny (model prog w) A (call (.type "bool") [.ref x]) Q E s := by
  refine callType_codes (T := "bool") (Bi := Builtin.«object.__init__») (Q₁ := fun r s₁ => ∃ b, r = .bool b ∧ Q r s₁) PySem.F.called_bool (PySem.F.typeCall_bool_1 _) PySem.F.entry_object_init ?_ ?_
  · refine codeAny_of_tree ?_
    show wpAny _ A.in1.in1 (do checkBuiltinCall "bool.__new__" ⟨[.type "bool", .ref x], []⟩; again (.builtin "bool.__new__" ⟨[.type "bool", .ref x], []⟩)) _ _ s
    refine wpAny_bind (wpAny_of_eq (PySem.F.newCall_bool_1 _) (wpAny_pure ⟨plainId_quiet (by decide +kernel) _, codeAny_builtin PySem.F.entry_bool_new ?_⟩))
    rw [Around.under_plainId (by decide +kernel) _]; unfold Builtin.«bool.__new__»
    refine wpAny_bind (m := isType (.type "bool")) (wpAny_pure ?_)
    refine wpAny_bind (m := isSubtype (.type "bool") (.type "bool")) (wpAny_of_eq PySem.F.conv_sub_bool ?_)
    simp only [Bool.not_true, Bool.false_eq_true, if_false]; refine wpAny_bind (m := someArgs "bool" 0 1 _) (wpAny_pure ?_)
    refine wpAny_bind (wpAny_mono (truthy_len X I hb hs hf (Q := fun b s' => Q (.bool b) s') h) (fun b s₁ hr => wpAny_pure ⟨b, rfl, hr⟩) fun _ _ y => y)
  · rintro obj s₁ ⟨b, rfl, hq⟩
    exact ⟨rfl, PySem.F.args_object_init_2 _ _, object_init_meets PySem.F.called_bool.init.lookup PySem.F.called_bool.made (by decide) prog w A.in1 _ s₁ ⟨rfl, rfl, hq⟩⟩
end
end PySem.W
namespace D
open PySem PySem.Spec L2
def nobB (K : PySem.W.Frag) (c : Str) : Bool := decide (PySem.W.findIn K (.ref (cA K c)) "__bool__" = some none)
theorem nob_of {K : PySem.W.Frag} {c : Str} (h : nobB K c = true) : PySem.W.findIn K (.ref (cA K c)) "__bool__" = some none := of_decide_eq_true h
def BlOk (P : Program) (w : World) (K : PySem.W.Frag) (mg : Str → Option Value) (base : Heap) (k : Nat) (q : Str × DSp) : Prop :=
  PySem.W.findIn K (.ref (cA K q.1)) "__bool__" = some none ∧ SpOk P w K mg base k "__len__" q
section
variable {X : Cx} {k : Nat} {tb : SpT}
/-- bool(x), x an instance with a length -/
def boolX (tb : SpT) : NOp := fun rs ρ S k => match rs with
  | [r] => spD tb r S [] fun q => ∃ i : Int, q = .int i ∧ 0 ≤ i ∧ i < 2 ^ 63 ∧ k (.bl (i != 0))
  | _ => False
theorem n_boolX (h : AllT (BlOk X.prog X.w X.K X.mg X.base k) tb) (hg : X.A.guards = some []) (hr : Room (k + 3) X.A) : OpN X (.type "bool") (boolX tb) := by
  intro F I0 pins s ρ S I σ τ H xs us rs kk Q J R rr rv q post
  unfold boolX at q
  split at q
  · rename_i r
    obtain ⟨x, _, rfl, h1, e⟩ := rr
    cases e
    obtain ⟨u, rfl, ru⟩ := vals1 rv
    obtain ⟨c, d, p, a, dx, gs, rfl, e2, rfl, rfl, ea, rp, q⟩ := spD_of R h1 ru q
    obtain ⟨h0, g, s1, s2, s3, C⟩ := h.at e2
    obtain ⟨od, I2⟩ := ins_at J ea
    refine PySem.W.bool_call J.kIn I2 h0 s1 s2 (sp_run (xs := [.ref a]) (as := [p]) C hg hr.in1.in1.in1 rfl J R (.cons rfl .nil) ⟨_, [], rfl, rp, rfl⟩ q fun y H' p I' u s' l R' rp' q' J' ru => ?_)
    obtain ⟨i, rfl, i0, i1, kq⟩ := q'
    cases rp'
    obtain ⟨t, rfl⟩ := ru
    exact ⟨⟨i0, i1⟩, _, _, rfl, .bl (i != 0), H', J'.tok _, rfl, post _ _ (.bl (i != 0)) _ l R' .mkB kq⟩
  · exact q.elim
end
end D
namespace D
open PySem PySem.Spec L2
/-! C.f as a fact of the text -/
def cvB (K : PySem.W.Frag) (c f : Str) (v : V) : Bool := PySem.W.readsIn K (cA K c) (.type "type") && (decide (PySem.W.specialIn K (.ref (cA K c)) "__getattribute__" = some (some (.builtin "type.__getattribute__"))) &&
  match PySem.W.findCls K (.ref (cA K c)) (.type "type") f with
  | some (.val u) => He.relB v u
  | _ => false)
theorem cv_of {K : PySem.W.Frag} {c f : Str} {v : V} (h : cvB K c f v = true) : ∃ mc u, ClX.CRead K (cA K c) mc ∧ ClX.CVal K (cA K c) mc f v u := by
  unfold cvB at h
  simp only [Bool.and_eq_true, decide_eq_true_eq] at h; obtain ⟨h1, h2, h3⟩ := h
  split at h3
  · rename_i u e
    exact ⟨.type "type", u, ⟨h1, h2⟩, ⟨e, He.relB_ok h3⟩⟩
  · cases h3
end D
/-! D28: t.index(x), t a tuple of texts. -/
namespace D
open PySem PySem.Spec L2
abbrev tyT : Env → Store → R → Prop := fun _ _ r => ∃ ps, r = .v (.tup ps)
/-- t.index(x): the first place -/
def indexD : MOp := fun r rs ρ S k => match r, rs with
  | .v (.tup ps), [.v (.str z)] => match strsOf ps with
    | some ys => z ∈ ys ∧ k (.int (ys.idxOf z)) ρ S
    | none => False
  | _, _ => False
section
variable {X : Cx} {F I0 : Hp}
theorem d_tindex {o e : Expr} {To : DT} {A : DA} {apos cpos : Pos} (ho : DE F I0 X o To) (ha : DAs F I0 X [e] A)
    (hbase : BaseOk X o "index" := by rfl) (hfew : FewOk X cpos [e] := by rfl) (hline : (apos.endLine == cpos.line) = true := by rfl) (hs : StOk X e [] := by rfl) (hplain : PlOk X cpos [] := by rfl) :
    DE F I0 X (.Call (.Attribute o "index" apos) [e] [] cpos) (TM tyT indexD To A) := by
  refine (pe_tm PySem.F.slot_tuple_index PySem.F.type_tuple_index mt_tup_index ho ha hbase hfew hline hs hplain).weak fun σ H Q ⟨ρ, S, I, Q0, R, q, post⟩ => ?_
  refine ⟨ρ, S, I, _, R, q, fun x H1 r ρ1 S1 I1 l1 R1 rr q1 => ?_⟩
  obtain ⟨⟨ps, e⟩, q1⟩ := q1
  subst e
  obtain ⟨a, vs, rfl, h1, t1⟩ := rr
  refine ⟨⟨a, vs, rfl, R1.sr.imm.sqn h1⟩, ρ1, S1, I1, _, R1, q1, fun xs H2 rs ρ2 S2 I2 l2 R2 rrs q2 => ?_⟩
  unfold indexD at q2
  split at q2
  · rename_i ps' z e3
    cases e3
    split at q2
    · rename_i ys e2
      obtain ⟨y, _, rfl, h2, rfl⟩ := rrs
      cases h2.1
      obtain ⟨rfl, _⟩ := strsOf_rp e2 t1
      obtain ⟨hz, q2⟩ := q2
      have hl := List.idxOf_lt_length_iff.mpr hz
      refine ⟨a, ys, z, ys.idxOf z, rfl, rfl, R2.sr.imm.sqt (l2.sqn h1).sqt, ?_, fun m hm => ?_, post _ _ (.v (.int _)) _ _ _ (l1.trans l2) R2 (RP.mkI : RP (gm F I0 X) I2 (.int (ys.idxOf z)) (.int (ys.idxOf z))) q2⟩
      · rw [List.getElem?_eq_getElem hl, List.getElem_idxOf]
      · intro c
        obtain ⟨h3, h4⟩ := List.getElem?_eq_some_iff.mp c
        have := List.not_of_lt_findIdx (p := (· == z)) (xs := ys) (i := m) (by simpa [List.idxOf] using hm)
        simp [h4] at this
    · exact q2.elim
  · exact q2.elim
end
end D
/-! D29: a, b = e, [] : names that change later. -/
namespace D
open PySem PySem.Spec L2
/-- both are new objects of their slots -/
def SOw2 (i j : Nat) (T : DNw) : DS := fun D ρ S => T ρ S fun o ρ1 S1 => D.nx ((ρ1.set i (.own o)).set j (.own (.lst []))) S1
/-- the first is a value -/
def SVo (i j : Nat) (T : DT) : DS := fun D ρ S => T ρ S fun r ρ1 S1 => match r with
  | .v p => D.nx ((ρ1.set i (.v p)).set j (.own (.lst []))) S1
  | .loc _ => False
section
variable {X : Cx} {F I0 : Hp} {pos : Pos} {i j : Nat} {x y : Str} {a : Expr} {px py pt p0 : Pos} {kt k2 : Nat} {pt2 : Pos}
theorem s_ow2 {T : DNw} (hc : X.calm = true) (hN : X.N.Nodup) (hi : X.N[i]? = some x) (hj : X.N[j]? = some y) (hij : i ≠ j) (hx : X.env.scope.names.lookup x = some .local) (hy : X.env.scope.names.lookup y = some .local)
    (he : DN F I0 X a T) (hw : swappedStores [.Tuple [.Name x px, .Name y py] kt pt] (.Tuple [a, .List [] p0] k2 pt2) X.env = pure (some [x, y]))
    (hs : swapsWithSole [.Tuple [.Name x px, .Name y py] kt pt] (.Tuple [a, .List [] p0] k2 pt2) pos.line X.env = pure false := by rfl) (hst : starEach [a, .List [] p0] X.env = (false, eval a X.env) :: starEach [.List [] p0] X.env := by rfl) :
    DSt F I0 X (.Assign [.Tuple [.Name x px, .Name y py] kt pt] (.Tuple [a, .List [] p0] k2 pt2) pos) (SOw2 i j T) := by
  refine (ps_par hc hN hi hj hij hx hy (pa_cons he (pa_cons (pe_lst pa_nil) pa_nil) hst) hw hs).weak fun D σ H ⟨ρ, S, I, D0, R, q, h1, h2, h3, h4⟩ => ?_
  refine ⟨ρ, S, I, _, R, q, fun A H' o u ρ' S' I' l hF R' ho q => ?_⟩
  refine ⟨Nat.zero_le _, fun p hp => ⟨_, _, rfl, ?_⟩⟩
  have R1 := R'.heldO hF (ho.gm (G' := gm F I0 X) rfl) i
  have R2 := (R1.toF (u := .lst []) hp).heldO (R1.unused hp).1 (o := .lst []) ⟨[], upd_same, rfl⟩ j
  exact h1 _ _ _ _ _ l R2 q
theorem s_vo {T : DT} (hc : X.calm = true) (hN : X.N.Nodup) (hi : X.N[i]? = some x) (hj : X.N[j]? = some y) (hij : i ≠ j) (hx : X.env.scope.names.lookup x = some .local) (hy : X.env.scope.names.lookup y = some .local)
    (he : DE F I0 X a T) (hw : swappedStores [.Tuple [.Name x px, .Name y py] kt pt] (.Tuple [a, .List [] p0] k2 pt2) X.env = pure (some [x, y]))
    (hs : swapsWithSole [.Tuple [.Name x px, .Name y py] kt pt] (.Tuple [a, .List [] p0] k2 pt2) pos.line X.env = pure false := by rfl) (hst : starEach [a, .List [] p0] X.env = (false, eval a X.env) :: starEach [.List [] p0] X.env := by rfl) :
    DSt F I0 X (.Assign [.Tuple [.Name x px, .Name y py] kt pt] (.Tuple [a, .List [] p0] k2 pt2) pos) (SVo i j T) := by
  refine (ps_par hc hN hi hj hij hx hy (pa_cons he (pa_cons (pe_lst pa_nil) pa_nil) hst) hw hs).weak fun D σ H ⟨ρ, S, I, D0, R, q, h1, h2, h3, h4⟩ => ?_
  refine ⟨ρ, S, I, _, R, q, fun z H' r ρ' S' I' l R' rr q => ?_⟩
  refine ⟨Nat.zero_le _, fun p hp => ⟨_, _, rfl, ?_⟩⟩
  cases r with
  | loc k => exact (show False from q).elim
  | v w =>
    have R1 := R'.put (i := i) (show RP (gm F I0 X) I' w z from rr)
    have R2 := (R1.toF (u := .lst []) hp).heldO (R1.unused hp).1 (o := .lst []) ⟨[], upd_same, rfl⟩ j
    exact h1 _ _ _ _ _ l R2 q
end
end D
/-! D30: isinstance(x, (C, D, ..)), own classes. -/
namespace D
open PySem PySem.Spec L2
section
variable {X : Cx}
theorem call_isiS : CallR X (.builtin "isinstance") (fun xs H Q => ∃ (x : V) (tp : Addr) (cs : List V) (t : Value) (ws : List Value) (b : Bool), xs = [x, .ref tp] ∧ SqT X.K H tp cs ∧ Paired ClsV cs ws ∧ TyX X.K H x t ∧ PySem.W.kitAny X.K t ws = some b ∧ Q (.bl b) H) := by
  intro pins s σ H xs us Q I r h; obtain ⟨x, tp, cs, t, ws, b, rfl, hT, k, ty, e, q⟩ := h
  obtain ⟨u1, u2, rfl, r1, r2⟩ := vals2 r; cases (show u2 = Value.ref tp from r2)
  obtain ⟨P, Z, p, hx⟩ := kit_of I r1 ty; obtain ⟨its, rv, ⟨⟨oc, od, dt, sl⟩, h1, h2, n, h3⟩, _⟩ := I.tuple hT
  have e3 := ClsV.all k rv
  simp only at h2 h3
  subst e3 h2 h3
  (exact PySem.W.kia_tup Z I.kIn p h1 e hx fun tk => ⟨.bl b, H, I.tok tk, rfl, q⟩)
end
/-- the classes of a tuple of classes -/
def clsOf : List P → Option (List Str)
  | [] => some []
  | .cl m :: r => (clsOf r).map (m :: ·)
  | _ :: _ => none
def isiXT (cs : List Str) (sub : List (Str × List Str)) : NOp := fun rs ρ S k => match rs with
  | [r, .v (.tup ms)] => match clsOf ms with
    | some ns => ns.all cs.contains = true ∧ match insD S r with
      | some (n, _) => match sub.lookup n with
        | some l => k (.bl (ns.any l.contains))
        | none => False
      | none => match tyN ρ S r with
        | some _ => k (.bl false)
        | none => False
    | none => False
  | rs => isiX cs sub rs ρ S k
theorem cls_vals {G : Gm} {I : Hp} : ∀ {ms : List P} {ns : List Str} {vs : List V}, clsOf ms = some ns → RPs G I ms vs → Paired ClsV vs (ns.map fun m => .ref (cA G.K m))
  | [], _, _, e, r => by cases e; cases r; exact .nil
  | p :: ms, ns, vs, e, ⟨x, q, e2, h, t⟩ => by
    cases p <;> first
      | (exfalso; simp [clsOf] at e; done)
      | skip
    simp only [clsOf] at e
    obtain ⟨zs, e3, rfl⟩ := Option.map_eq_some_iff.mp e
    subst e2
    cases (show x = .ref (cA G.K _) from h)
    exact .cons (.own _) (cls_vals e3 t)
theorem kit_list {K : PySem.W.Frag} {t : Value} {f : Str → Bool} : ∀ {ns : List Str}, (∀ m ∈ ns, PySem.W.kitOne K t (.ref (cA K m)) = some (f m)) → PySem.W.kitAny K t (ns.map fun m => .ref (cA K m)) = some (ns.any f)
  | [], _ => rfl
  | m :: ns, h => by
    have ih := kit_list (ns := ns) fun z hz => h z (List.mem_cons_of_mem _ hz)
    refine kitAny_cons (h m (List.mem_cons_self ..)) (fun e => ?_) fun e => ?_
    · rw [ih, List.any_cons, e, Bool.false_or]
    · rw [List.any_cons, e, Bool.true_or]
theorem n_isiXT {X : Cx} {cs : List Str} {sub : List (Str × List Str)} (h : isiB X.K cs sub = true) : OpN X (.builtin "isinstance") (isiXT cs sub) := by
  have old := n_isiX h
  unfold isiB at h
  simp only [Bool.and_eq_true, List.all_eq_true, decide_eq_true_eq] at h; obtain ⟨h1, h2⟩ := h
  intro F I0 pins s ρ S I σ τ H xs us rs kk Q J R rr rv q post
  unfold isiXT at q
  split at q
  · rename_i r ms
    split at q
    · rename_i ns e0
      obtain ⟨hc, q⟩ := q
      obtain ⟨x, _, rfl, r1, y, _, rfl, r2, e⟩ := rr
      cases e
      obtain ⟨tp, vs, rfl, hq, t⟩ := r2
      have hT : SqT X.K H tp vs := R.sr.imm.sqt hq.sqt
      have hp := cls_vals e0 t
      have hm : ∀ m ∈ ns, m ∈ cs := fun m hm => by simpa using List.all_eq_true.mp hc m hm
      split at q
      · rename_i n fs e1
        split at q
        · rename_i l e2
          obtain ⟨f1, f2, f3⟩ := h1 _ (lookup_memD e2)
          obtain ⟨t1, _⟩ := R.tyX (cs := [n]) (fun c hc => by rw [List.mem_singleton.mp hc]; exact insF_of f1) r1
          exact call_isiS pins s τ H _ us Q J rv ⟨x, tp, vs, _, _, _, rfl, hT, hp, t1 n fs e1 List.mem_cons_self, kit_list (f := l.contains) fun m h => f2 m (hm m h), post _ _ _ _ Le.refl R .mkB q⟩
        · exact q.elim
      · split at q
        · rename_i e3 a e2
          obtain ⟨_, t2⟩ := R.tyX (cs := []) (fun c hc => nomatch hc) r1
          obtain ⟨t3, t4⟩ := t2 a e2
          refine call_isiS pins s τ H _ us Q J rv ⟨x, tp, vs, _, _, _, rfl, hT, hp, t3, kit_list (f := fun _ => false) fun m h => h2 m (hm m h) a t4, post _ _ _ _ Le.refl R .mkB ?_⟩
          have : ns.any (fun _ => false) = false := by simp
          rw [this]
          exact q
        · exact q.elim
    · exact q.elim
  · exact old F I0 pins s ρ S I σ τ H xs us _ kk Q J R rr rv q post
end D
/-! D31: methods of texts (split, partition, startswith, removeprefix), enumerate from a number, static methods. -/
namespace D
open PySem PySem.Spec L2
theorem sub_ok {x : Str} (h : PyData.strOk x = true) (i j : Nat) : PyData.strOk (Builtin.Str.strSub x i j) = true := by
  unfold PyData.strOk at h ⊢
  rw [Array.all_eq_true_iff_forall_mem] at h ⊢
  intro c hc
  refine h c ?_
  have hc' : c ∈ (x.cps.extract i j) := hc
  rw [Array.mem_extract_iff_getElem] at hc'
  obtain ⟨m, hm, rfl⟩ := hc'
  exact Array.getElem_mem _
theorem sub_len (x : Str) (i j : Nat) : (Builtin.Str.strSub x i j).length ≤ x.length := by
  show (x.cps.extract i j).size ≤ x.cps.size; rw [Array.size_extract]; omega
theorem pf_ok {x : Str} (h : PyData.strOk x = true) (w : Nat) : ∀ (cs : List Nat) (a : Nat), ∀ y ∈ StrLaws.partsFrom x w a cs, PyData.strOk y = true ∧ y.length ≤ x.length
  | [], a, y, hy => by
    cases List.mem_singleton.mp hy
    exact ⟨sub_ok h _ _, sub_len _ _ _⟩
  | c :: r, a, y, hy => by
    rcases (List.mem_cons.mp hy) with rfl | hy
    · exact ⟨sub_ok h _ _, sub_len _ _ _⟩
    · exact pf_ok h w r _ y hy
theorem split_ok {x : Str} (h : PyData.strOk x = true) (b : Str) : ∀ y ∈ Txt.split x b, PyData.strOk y = true ∧ y.length ≤ x.length := by
  intro y hy
  unfold Txt.split at hy
  split at hy
  · cases List.mem_singleton.mp hy; exact ⟨h, Nat.le_refl _⟩
  · split at hy
    · cases List.mem_singleton.mp hy; exact ⟨h, Nat.le_refl _⟩
    · rw [StrLaws.partsBetween_eq] at hy
      exact pf_ok h _ _ _ y hy
/-- s.split(sep) -/
def splitD : MOp := fun r rs ρ S k => match r, rs with
  | .v (.str a), [.v (.str b)] => (b.length == 0) = false ∧ a.length + 2 ≤ sizeLine ∧ k (.lst ((Txt.split a b).map P.str)) ρ S
  | _, _ => False
/-- s.partition(sep) -/
def partD : MOp := fun r rs ρ S k => match r, rs with
  | .v (.str a), [.v (.str b)] => (b.length == 0) = false ∧ k (.row [.str (Txt.partition a b).1, .str (Txt.partition a b).2.1, .str (Txt.partition a b).2.2]) ρ S
  | _, _ => False
/-- s.startswith(t) -/
def stsD : MOp := fun r rs ρ S k => match r, rs with
  | .v (.str a), [.v (.str b)] => k (.bl (Txt.startswith a b)) ρ S
  | _, _ => False
/-- s.removeprefix(t) -/
def rmpD : MOp := fun r rs ρ S k => match r, rs with
  | .v (.str a), [.v (.str b)] => k (.str (Txt.removeprefix a b)) ρ S
  | _, _ => False
theorem strs_rps {G : Gm} {I : Hp} : ∀ {ys : List Str}, (∀ y ∈ ys, PyData.strOk y = true ∧ y.length ≤ sizeLine) → RPs G I (ys.map P.str) (ys.map V.str)
  | [], _ => rfl
  | y :: r, h => ⟨_, _, rfl, RP.mkS (h y (List.mem_cons_self ..)).2 (h y (List.mem_cons_self ..)).1, strs_rps fun z hz => h z (List.mem_cons_of_mem _ hz)⟩
section
variable {X : Cx}
theorem m_split : LkM X "str" (fun x xs H Q => ∃ a b, x = .str a ∧ xs = [.str b] ∧ (b.length == 0) = false ∧ a.length + 2 ≤ sizeLine ∧ rNewStrs (Txt.split a b) H Q) tyS splitD where
  ty := fun F I0 ρ S I σ H x r _ rr h => ty_str rr h
  op := fun F I0 ρ S I σ H x xs r rs k Q R rr rrs q post => by
    unfold splitD at q
    split at q
    · rename_i a b
      cases rr.1
      obtain ⟨y, _, rfl, h1, rfl⟩ := rrs
      cases h1.1
      obtain ⟨hb, hl, q⟩ := q
      refine ⟨a, b, rfl, rfl, hb, hl, fun p hp => ?_⟩
      obtain ⟨l2, R2⟩ := R.frz (o := .lst ((Txt.split a b).map V.str)) hp
      exact post _ _ (.lst _) _ _ _ l2 R2 (RP.mkL upd_same (strs_rps fun y hy => ⟨(split_ok rr.2.2 b y hy).1, Nat.le_trans (split_ok rr.2.2 b y hy).2 rr.2.1⟩)) q
    · exact q.elim
theorem m_part : LkM X "str" (fun x xs H Q => ∃ a b, x = .str a ∧ xs = [.str b] ∧ (b.length == 0) = false ∧ a.length ≤ sizeLine ∧
    ∀ p, H p = none → Q (.ref p) (upd H p (.tup [.str (Txt.partition a b).1, .str (Txt.partition a b).2.1, .str (Txt.partition a b).2.2]))) tyS partD where
  ty := fun F I0 ρ S I σ H x r _ rr h => ty_str rr h
  op := fun F I0 ρ S I σ H x xs r rs k Q R rr rrs q post => by
    unfold partD at q
    split at q
    · rename_i a b
      cases rr.1
      obtain ⟨y, _, rfl, h1, rfl⟩ := rrs
      cases h1.1
      obtain ⟨hb, q⟩ := q
      refine ⟨a, b, rfl, rfl, hb, rr.2.1, fun p hp => ?_⟩
      obtain ⟨l2, R2⟩ := R.frz (o := .tup [.str (Txt.partition a b).1, .str (Txt.partition a b).2.1, .str (Txt.partition a b).2.2]) hp
      have ko : ∀ z ∈ [(Txt.partition a b).1, (Txt.partition a b).2.1, (Txt.partition a b).2.2], PyData.strOk z = true ∧ z.length ≤ sizeLine := by
        intro z hz
        have he : PyData.strOk Str.empty = true ∧ Str.empty.length ≤ sizeLine := ⟨by decide +kernel, Nat.zero_le _⟩
        unfold Txt.partition at hz
        split at hz
        · simp only [List.mem_cons, List.not_mem_nil, or_false] at hz
          rcases hz with rfl | rfl | rfl
          · exact ⟨sub_ok rr.2.2 _ _, Nat.le_trans (sub_len _ _ _) rr.2.1⟩
          · exact ⟨h1.2.2, h1.2.1⟩
          · exact ⟨sub_ok rr.2.2 _ _, Nat.le_trans (sub_len _ _ _) rr.2.1⟩
        · simp only [List.mem_cons, List.not_mem_nil, or_false] at hz
          rcases hz with rfl | rfl | rfl
          · exact ⟨rr.2.2, rr.2.1⟩
          · exact he
          · exact he
      exact post _ _ (.row _) _ _ _ l2 R2 (RP.mkR upd_same (strs_rps ko)) q
    · exact q.elim
theorem m_sts : LkM X "str" (fun x xs H Q => ∃ a b, x = .str a ∧ xs = [.str b] ∧ Q (.bl (Txt.startswith a b)) H) tyS stsD where
  ty := fun F I0 ρ S I σ H x r _ rr h => ty_str rr h
  op := fun F I0 ρ S I σ H x xs r rs k Q R rr rrs q post => by
    unfold stsD at q
    split at q
    · rename_i a b
      cases rr.1
      obtain ⟨y, _, rfl, h1, rfl⟩ := rrs
      cases h1.1
      exact ⟨a, b, rfl, rfl, post _ _ (.bl _) _ _ _ Le.refl R .mkB q⟩
    · exact q.elim
theorem m_rmp : LkM X "str" (fun x xs H Q => ∃ a b, x = .str a ∧ xs = [.str b] ∧ a.length ≤ sizeLine ∧ Q (.str (Txt.removeprefix a b)) H) tyS rmpD where
  ty := fun F I0 ρ S I σ H x r _ rr h => ty_str rr h
  op := fun F I0 ρ S I σ H x xs r rs k Q R rr rrs q post => by
    unfold rmpD at q
    split at q
    · rename_i a b
      cases rr.1
      obtain ⟨y, _, rfl, h1, rfl⟩ := rrs
      cases h1.1
      have ko : PyData.strOk (Txt.removeprefix a b) = true ∧ (Txt.removeprefix a b).length ≤ a.length := by
        unfold Txt.removeprefix Txt.affix
        split
        · split
          · exact ⟨rr.2.2, Nat.le_refl _⟩
          · exact ⟨sub_ok rr.2.2 _ _, sub_len _ _ _⟩
        · exact ⟨rr.2.2, Nat.le_refl _⟩
      exact ⟨a, b, rfl, rfl, rr.2.1, post _ _ (.str _) _ _ _ Le.refl R (RP.mkS (Nat.le_trans ko.2 rr.2.1) ko.1) q⟩
    · exact q.elim
end
section
variable {X : Cx} {F I0 : Hp} {o e : Expr} {To : DT} {A : DA} {apos cpos : Pos}
theorem d_split (ho : DE F I0 X o To) (ha : DAs F I0 X [e] A)
    (hbase : BaseOk X o "split" := by rfl) (hfew : FewOk X cpos [e] := by rfl) (hline : (apos.endLine == cpos.line) = true := by rfl) (hs : StOk X e [] := by rfl) (hplain : PlOk X cpos [] := by rfl) :
    DE F I0 X (.Call (.Attribute o "split" apos) [e] [] cpos) (TM tyS splitD To A) :=
  d_bm PySem.F.plainAttrs_str PySem.F.slot_str_split PySem.F.type_str_split mt_split m_split ho ha hbase hfew hline hs hplain
theorem d_partition (ho : DE F I0 X o To) (ha : DAs F I0 X [e] A)
    (hbase : BaseOk X o "partition" := by rfl) (hfew : FewOk X cpos [e] := by rfl) (hline : (apos.endLine == cpos.line) = true := by rfl) (hs : StOk X e [] := by rfl) (hplain : PlOk X cpos [] := by rfl) :
    DE F I0 X (.Call (.Attribute o "partition" apos) [e] [] cpos) (TM tyS partD To A) :=
  d_bm PySem.F.plainAttrs_str PySem.F.slot_str_partition PySem.F.type_str_partition mt_partition m_part ho ha hbase hfew hline hs hplain
theorem d_startswith (ho : DE F I0 X o To) (ha : DAs F I0 X [e] A)
    (hbase : BaseOk X o "startswith" := by rfl) (hfew : FewOk X cpos [e] := by rfl) (hline : (apos.endLine == cpos.line) = true := by rfl) (hs : StOk X e [] := by rfl) (hplain : PlOk X cpos [] := by rfl) :
    DE F I0 X (.Call (.Attribute o "startswith" apos) [e] [] cpos) (TM tyS stsD To A) :=
  d_bm PySem.F.plainAttrs_str PySem.F.slot_str_startswith PySem.F.type_str_startswith mt_startswith m_sts ho ha hbase hfew hline hs hplain
theorem d_removeprefix (ho : DE F I0 X o To) (ha : DAs F I0 X [e] A)
    (hbase : BaseOk X o "removeprefix" := by rfl) (hfew : FewOk X cpos [e] := by rfl) (hline : (apos.endLine == cpos.line) = true := by rfl) (hs : StOk X e [] := by rfl) (hplain : PlOk X cpos [] := by rfl) :
    DE F I0 X (.Call (.Attribute o "removeprefix" apos) [e] [] cpos) (TM tyS rmpD To A) :=
  d_bm PySem.F.plainAttrs_str PySem.F.slot_str_removeprefix PySem.F.type_str_removeprefix mt_removeprefix m_rmp ho ha hbase hfew hline hs hplain
end
/-! ### enumerate(v, start=k) -/
section
variable {X : Cx} {tg : Expr} {pins : List (Addr × Obj)} {σ : L2.St} {H : Hp} {s : Shared} {R : It → Hp → Prop} {E : Value → Shared → Prop}
theorem pieEk {elts : List Expr} {kk : Nat} {tpos : Pos} {u : Value} {ob : Obj} {adr : List Addr} {vs : List V} {S : Hp → Prop} {own : Addr → Nat → Heap → Prop} {k : Int} {t : Tok} (sr : Src X.prog X.w X.K u ob adr vs S own) (J : Inv X pins σ H s) (hS : S H) (k0 : -(2 ^ 63) ≤ k) (k1 : k < 2 ^ 63) (q : R (ItN (rowsE k vs) S) H) :
    wpAny (model X.prog X.w) X.A (call (.type "enumerate") [u] [(Str.ofString "start", .int k t)]) (fun v s1 => wpAny (model X.prog X.w) X.A (pyIter v) (PIE X pins σ (.Tuple elts kk tpos) R) E s1) E s := by
  obtain ⟨⟨Hh, B, hH⟩, ho⟩ := sr.begins X pins σ H s rfl J hS
  exact enum_begins_start B hH k0 k1 fun h' he hit _ hk => pieE0 sr J hS q he hit hk
end
def IEs (B : DA2) : DSrc := fun ρ S Q => B ρ S fun rs qs ρ1 S1 => match rs, qs with
  | [.v p], [.v (.int k)] => match asI p with
    | some xs => (-(2 ^ 63) ≤ k ∧ k < 2 ^ 63) ∧ Q (enumP k xs) Tr ρ1 S1
    | _ => False
  | _, _ => False
section
variable {X : Cx} {F I0 : Hp} {p pos tpos : Pos} {es elts : List Expr} {kws : List Keyword} {kk : Nat} {B : DA2}
theorem i_es (hg : Gl X "enumerate") (hm : X.mg "enumerate" = none) (hB : DCw F I0 X pos es kws ["start"] B) : DI F I0 X (.Tuple elts kk tpos) (.Call (.Name "enumerate" p) es kws pos) (IEs B) := by
  refine ⟨fun pins s σ H Rz J q => ?_⟩
  obtain ⟨ρ, S, I, Q0, R, q, post⟩ := q
  refine wpAny_Call_Name_kw (ld_blt J hg hm PyProof.Rows.boot_enumerate (callT_kw hB.plain (hB.run _ pins s σ H ρ S I _ _ J R q fun us ws xs zs rs qs ρ1 S1 I1 H1 s1 l J1 R1 rx rz rr rq q => ?_)))
  split at q
  · split at q
    · rename_i p k _ ps e
      obtain ⟨x, _, rfl, h1, rfl⟩ := rr
      obtain ⟨z, _, rfl, h3, rfl⟩ := rq
      cases h3
      obtain ⟨u, rfl, ru⟩ := rx.one
      obtain ⟨uz, rfl, rz1⟩ := rz.one
      obtain ⟨t, rfl⟩ := rz1
      obtain ⟨⟨k0, k1⟩, q⟩ := q
      obtain ⟨ob, adr, vs, Sx, own, sr, hs, t⟩ := src_of (G := gm F I0 X) h1 e ru
      exact pieEk sr J1 (hs H1 R1.sr.imm) k0 k1 (post _ _ _ _ _ _ _ l R1 (fun F' => walkE hs (RPs.gm { gm F I0 X with F := F' } t rfl)) q)
    · exact q.elim
  · exact q.elim
end
/-! ### static methods -/
/-- C.m is a static method: its record at p, its def at g -/
structure SMet (K : PySem.W.Frag) (C : Addr) (mc : Value) (m : Str) (p g : Addr) : Prop where
  at_ : PySem.W.findCls K (.ref C) mc m = some (.get (.builtin "staticmethod.__get__") (.ref p) .none (.ref C))
  rc : ∃ rest, PySem.W.recIn K p "staticmethod" = some (.ref g :: rest)
  fi : PySem.W.fnIn K g = true
  kp : PySem.W.keepIn K (.ref g) = true
def smB (K : PySem.W.Frag) (c m : Str) (g : Addr) : Bool := PySem.W.readsIn K (cA K c) (.type "type") && (decide (PySem.W.specialIn K (.ref (cA K c)) "__getattribute__" = some (some (.builtin "type.__getattribute__"))) &&
  (He5.wrapB K (cA K c) "staticmethod" "staticmethod.__get__" m && (decide (He5.wf K (cA K c) "staticmethod" m = g) && (PySem.W.fnIn K g && PySem.W.keepIn K (.ref g)))))
theorem sm_of {K : PySem.W.Frag} {c m : Str} {g : Addr} (h : smB K c m g = true) : ∃ mc p, ClX.CRead K (cA K c) mc ∧ SMet K (cA K c) mc m p g := by
  unfold smB at h
  simp only [Bool.and_eq_true, decide_eq_true_eq] at h; obtain ⟨h1, h2, h3, h4, h5, h6⟩ := h
  obtain ⟨q1, q2⟩ := He5.wrapB_ok h3
  rw [h4] at q2
  exact ⟨.type "type", _, ⟨h1, h2⟩, ⟨q1, q2, h5, h6⟩⟩
def SmOk (P : Program) (w : World) (K : PySem.W.Frag) (mg : Str → Option Value) (base : Heap) (k : Nat) (m : Str) (ks : List Str) (n : Nat) (q : Str × DSp × List Arg × List D.P) : Prop :=
  ∃ mc p g, ClX.CRead K (cA K q.1) mc ∧ SMet K (cA K q.1) mc m p g ∧ CallKOk P w K mg base k g q.2.1 ks n q.2.2.1 q.2.2.2
/-- C.m(..), m a static method -/
def TSm (tb : MT) (n mm : Nat) (W : DXr) (T : DT) (B : DA2) : DT := fun ρ S Q => T ρ S fun r ρ1 S1 => match r with
  | .v (.cl c) => match tb.lookup c with
    | some (d, src, ds) => B ρ1 S1 fun rs qs ρ2 S2 => match vals rs, vals qs with
      | some as, some bs => finM W d n mm src ds as bs ρ2 S2 fun q S3 => Q (.v q) ρ2 S3
      | _, _ => False
    | none => False
  | _ => False
section
variable {X : Cx} {pins : List (Addr × Obj)} {σ : L2.St} {H : Hp} {s : Shared} {C p g : Addr} {mc : Value} {m : Str} {A : Around} {E : Value → Shared → Prop}
theorem getmethsm_ok {pl : Sem Bool} {Q : Value × List Value → Shared → Prop} (I : Inv X pins σ H s) (r : ClX.CRead X.K C mc) (k : SMet X.K C mc m p g)
    (h : ∀ s', Inv X pins σ H s' → Q (.ref g, []) s') : wpAny (model X.prog X.w) A (getMethod (.ref C) m pl) Q E s := by
  obtain ⟨rest, hp⟩ := k.rc
  refine PySem.W.method_cls I.kIn r.ga (PySem.W.cls_bind I.kIn r.rd k.at_ ?_)
  exact wpAny_call (PySem.W.sm_get (s := { s with toks := s.toks + 1 }) I.kIn hp (PySem.W.handed_on rfl (h _ (I.tok _))))
end
section
variable {X : Cx} {F I0 : Hp} {k : Nat} {m : Str} {tb : MT} {ks : List Str} {n mm : Nat} {W : DXr} {o : Expr} {es : List Expr} {kws : List Keyword} {T : DT} {B : DA2} {pos apos : Pos} {pl : Sem Bool}
theorem d_sm (he : DE F I0 X o T) (hB : DCw F I0 X pos es kws ks B) (h : AllT (fun q => SmOk X.prog X.w X.K X.mg X.base k m ks n q) tb) (hg : X.A.guards = some []) (hr : Room k X.A) (tk : L2.Takes X (trW (gm F I0 X) W)) (hml : ks.length = mm := by rfl)
    (ht : eval (.Call (.Attribute o m apos) es kws pos) X.env = (do
      let ov ← eval o X.env
      standAt apos.atName
      let (fv, more) ← holding [ov] (getMethod ov m pl)
      callWith pos fv more (backTo pos (starEach es X.env)) (backToKw pos (keywordEach kws X.env))) := by rfl) : DE F I0 X (.Call (.Attribute o m apos) es kws pos) (TSm tb n mm W T B) := by
  refine ⟨fun pins s σ H Q J h0 => ?_⟩
  obtain ⟨ρ, S, I, Q0, R, q, post⟩ := h0
  refine PySem.W.methodCall_KW (pl := pl) (thn (he.run pins s σ H (fun x H1 => ∃ r ρ1 S1 I1, Le I I1 ∧ Rel (gm F I0 X) ρ1 S1 I1 σ H1 ∧ RR (gm F I0 X) I1 σ r x ∧ _) J ⟨ρ, S, I, _, R, q, fun x H' r ρ' S' I' l R' rr q => ⟨r, ρ', S', I', l, R', rr, q⟩⟩) fun u s1 ⟨x, H1, J1, rx, r, ρ1, S1, I1, l, R1, rr, q⟩ => ?_) ht
  split at q
  · rename_i c
    obtain rfl : x = V.ref (cA X.K c) := rr
    obtain rfl : u = Value.ref (cA X.K c) := rx
    split at q
    · rename_i d src ds e2
      obtain ⟨mc, p, g, h1, h2, C⟩ := h.at e2
      refine getmethsm_ok J1 h1 h2 fun s2 J2 => ?_
      refine PySem.W.callWith_of (P := X.K.In) hB.plain (PySem.W.keeps_K h2.kp) (hB.run _ pins s2 σ H1 ρ1 S1 I1 _ _ J2 R1 q fun us ws xs zs rs qs ρ2 S2 I2 H2 s3 l2 J3 R2 rx rz rr2 rq q2 => ⟨J3.kIn, ?_⟩)
      split at q2
      · rename_i as bs e3 e4
        obtain ⟨n1, n2, q2⟩ := q2
        exact wpAny_call (codeAny_mono (CallKOk.run (R0 := fun r s' => match r with
            | .ok (.ret u) => EP X pins σ Q u s'
            | .ok _ => False
            | .error e => X.xe e s') (us := us) (xs := xs) (as := as) (W0 := trW (gm F I0 X) W) C hg hr rfl (fun _ _ _ z => z) J3 rx rz R2 (vals_of rr2 e3) (vals_of rq e4) n1 n2 hml q2
          (fun x H' p S' I' u s' l3 R' rp' q' J' ru => ⟨x, H', J', ru, post x H' (.v p) _ _ _ (l.trans (l2.trans l3)) R' rp' q'⟩) fun e s' z => tk e s' z) fun r s' hq => by
          cases r with
          | error e => exact hq
          | ok fl => cases fl with
            | ret u => exact hq
            | next => exact hq.elim
            | brk => exact hq.elim
            | cont => exact hq.elim)
      · exact q2.elim
    · exact q.elim
  · exact q.elim
end
end D
namespace K08
open PySem PySem.Spec L2 D
def top (i : Nat) : Stmt := PySem.Challenge.pw_tallypeaks_k08_texts_written_and_read.main.body.getD i (.Pass ⟨0, 0, 0, 0⟩)
def bodyC (i : Nat) : List Stmt := match top i with
  | .ClassDef _ _ _ b _ _ _ _ _ _ _ => b
  | _ => []
abbrev st__law_terms : Stmt := top 63
abbrev N__law_terms : List Str := ["_law_count", "_law_found", "_law_k"]
theorem sc__law_terms : FnScope N__law_terms ["_law_count"] (defScope st__law_terms) := ⟨rfl, rfl, rfl, by decide +kernel, rfl, by decide +kernel, by decide +kernel⟩
abbrev st__law_text : Stmt := top 76
abbrev N__law_text : List Str := ["_law_plain_here", "_law_side", "_law_named_here", "_law_begun", "_law_body", "_law_ends", "_law_lines", "_law_thing", "_law_k", "_law_pieces", "_law_at", "_law_terms_here"]
theorem sc__law_text : FnScope N__law_text ["_law_plain_here"] (defScope st__law_text) := ⟨rfl, rfl, rfl, by decide +kernel, rfl, by decide +kernel, by decide +kernel⟩
abbrev st_first_fall : Stmt := top 37
abbrev N_first_fall : List Str := ["value", "known", "index", "element"]
theorem sc_first_fall : FnScope N_first_fall ["value", "known"] (defScope st_first_fall) := ⟨rfl, rfl, rfl, by decide +kernel, rfl, by decide +kernel, by decide +kernel⟩
abbrev st_is_kind : Stmt := top 23
abbrev N_is_kind : List Str := ["value", "letter"]
theorem sc_is_kind : FnScope N_is_kind ["value"] (defScope st_is_kind) := ⟨rfl, rfl, rfl, by decide +kernel, rfl, by decide +kernel, by decide +kernel⟩
abbrev st_check_kinds : Stmt := top 38
abbrev N_check_kinds : List Str := ["kinds", "wrong", "kind"]
theorem sc_check_kinds : FnScope N_check_kinds ["kinds"] (defScope st_check_kinds) := ⟨rfl, rfl, rfl, by decide +kernel, rfl, by decide +kernel, by decide +kernel⟩
abbrev st_is_integer : Stmt := top 22
abbrev N_is_integer : List Str := ["value"]
theorem sc_is_integer : FnScope N_is_integer ["value"] (defScope st_is_integer) := ⟨rfl, rfl, rfl, by decide +kernel, rfl, by decide +kernel, by decide +kernel⟩
abbrev st_check_start : Stmt := top 39
abbrev N_check_start : List Str := ["start", "index", "begun"]
theorem sc_check_start : FnScope N_check_start ["start"] (defScope st_check_start) := ⟨rfl, rfl, rfl, by decide +kernel, rfl, by decide +kernel, by decide +kernel⟩
abbrev st_terms_of : Stmt := top 30
abbrev N_terms_of : List Str := ["count", "found", "slot"]
theorem sc_terms_of : FnScope N_terms_of ["count"] (defScope st_terms_of) := ⟨rfl, rfl, rfl, by decide +kernel, rfl, by decide +kernel, by decide +kernel⟩
abbrev st_is_rule : Stmt := top 40
abbrev N_is_rule : List Str := ["value", "count", "known", "terms"]
theorem sc_is_rule : FnScope N_is_rule ["value", "count"] (defScope st_is_rule) := ⟨rfl, rfl, rfl, by decide +kernel, rfl, by decide +kernel, by decide +kernel⟩
abbrev st_check_rules : Stmt := top 41
abbrev N_check_rules : List Str := ["rules", "kinds", "count", "index", "rule"]
theorem sc_check_rules : FnScope N_check_rules ["rules", "kinds", "count"] (defScope st_check_rules) := ⟨rfl, rfl, rfl, by decide +kernel, rfl, by decide +kernel, by decide +kernel⟩
abbrev st_check_result : Stmt := top 42
abbrev N_check_result : List Str := ["result", "count", "wrong"]
theorem sc_check_result : FnScope N_check_result ["result", "count"] (defScope st_check_result) := ⟨rfl, rfl, rfl, by decide +kernel, rfl, by decide +kernel, by decide +kernel⟩
abbrev st_Statistic___init__ : Stmt := ((bodyC 43).getD 1 (.Pass ⟨0, 0, 0, 0⟩))
abbrev N_Statistic___init__ : List Str := ["self", "kinds", "start", "rules", "result"]
theorem sc_Statistic___init__ : FnScope N_Statistic___init__ ["self", "kinds", "start", "rules", "result"] (defScope st_Statistic___init__) := ⟨rfl, rfl, rfl, by decide +kernel, rfl, by decide +kernel, by decide +kernel⟩
abbrev st__law_of : Stmt := top 69
abbrev N__law_of : List Str := ["_law_plain_here"]
theorem sc__law_of : FnScope N__law_of ["_law_plain_here"] (defScope st__law_of) := ⟨rfl, rfl, rfl, by decide +kernel, rfl, by decide +kernel, by decide +kernel⟩
abbrev st_lines_of : Stmt := top 51
abbrev N_lines_of : List Str := ["plain", "side", "kinds", "start", "rules", "result", "begun_words", "begun", "lines", "kind", "rule", "parts", "slot", "terms"]
theorem sc_lines_of : FnScope N_lines_of ["plain"] (defScope st_lines_of) := ⟨rfl, rfl, rfl, by decide +kernel, rfl, by decide +kernel, by decide +kernel⟩
abbrev st_Statistic_plain : Stmt := ((bodyC 43).getD 8 (.Pass ⟨0, 0, 0, 0⟩))
abbrev N_Statistic_plain : List Str := ["self"]
theorem sc_Statistic_plain : FnScope N_Statistic_plain ["self"] (defScope st_Statistic_plain) := ⟨rfl, rfl, rfl, by decide +kernel, rfl, by decide +kernel, by decide +kernel⟩
abbrev st_Statistic___str__ : Stmt := ((bodyC 43).getD 16 (.Pass ⟨0, 0, 0, 0⟩))
abbrev N_Statistic___str__ : List Str := ["self"]
theorem sc_Statistic___str__ : FnScope N_Statistic___str__ ["self"] (defScope st_Statistic___str__) := ⟨rfl, rfl, rfl, by decide +kernel, rfl, by decide +kernel, by decide +kernel⟩
abbrev st_line_at : Stmt := top 55
abbrev N_line_at : List Str := ["lines", "number"]
theorem sc_line_at : FnScope N_line_at ["lines", "number"] (defScope st_line_at) := ⟨rfl, rfl, rfl, by decide +kernel, rfl, by decide +kernel, by decide +kernel⟩
abbrev st_read_words : Stmt := top 52
abbrev N_read_words : List Str := ["line", "first", "words"]
theorem sc_read_words : FnScope N_read_words ["line", "first"] (defScope st_read_words) := ⟨rfl, rfl, rfl, by decide +kernel, rfl, by decide +kernel, by decide +kernel⟩
abbrev st_read_kinds : Stmt := top 56
abbrev N_read_kinds : List Str := ["line", "kinds", "kind"]
theorem sc_read_kinds : FnScope N_read_kinds ["line"] (defScope st_read_kinds) := ⟨rfl, rfl, rfl, by decide +kernel, rfl, by decide +kernel, by decide +kernel⟩
abbrev st_read_start : Stmt := top 57
abbrev N_read_start : List Str := ["line", "words", "word"]
theorem sc_read_start : FnScope N_read_start ["line"] (defScope st_read_start) := ⟨rfl, rfl, rfl, by decide +kernel, rfl, by decide +kernel, by decide +kernel⟩
abbrev st_read_terms : Stmt := top 53
abbrev N_read_terms : List Str := ["part", "slot", "count", "left", "equals", "right", "terms"]
theorem sc_read_terms : FnScope N_read_terms ["part", "slot", "count"] (defScope st_read_terms) := ⟨rfl, rfl, rfl, by decide +kernel, rfl, by decide +kernel, by decide +kernel⟩
abbrev st_read_rule : Stmt := top 54
abbrev N_read_rule : List Str := ["line", "kind", "count", "parts", "rule", "at", "part"]
theorem sc_read_rule : FnScope N_read_rule ["line", "kind", "count"] (defScope st_read_rule) := ⟨rfl, rfl, rfl, by decide +kernel, rfl, by decide +kernel, by decide +kernel⟩
abbrev st_made : Stmt := top 46
abbrev N_made : List Str := ["side", "kinds", "start", "rules", "result"]
theorem sc_made : FnScope N_made ["side", "kinds", "start", "rules", "result"] (defScope st_made) := ⟨rfl, rfl, rfl, by decide +kernel, rfl, by decide +kernel, by decide +kernel⟩
abbrev st_read_lines : Stmt := top 58
abbrev N_read_lines : List Str := ["lines", "side", "kinds", "start", "rules", "number", "kind", "rule", "result"]
theorem sc_read_lines : FnScope N_read_lines ["lines"] (defScope st_read_lines) := ⟨rfl, rfl, rfl, by decide +kernel, rfl, by decide +kernel, by decide +kernel⟩
abbrev st_Statistic_read : Stmt := ((bodyC 43).getD 2 (.Pass ⟨0, 0, 0, 0⟩))
abbrev N_Statistic_read : List Str := ["text"]
theorem sc_Statistic_read : FnScope N_Statistic_read ["text"] (defScope st_Statistic_read) := ⟨rfl, rfl, rfl, by decide +kernel, rfl, by decide +kernel, by decide +kernel⟩
abbrev st__law_draw : Stmt := top 62
abbrev N__law_draw : List Str := ["_law_pool_here", "_law_many", "_law_seed", "_law_digit"]
theorem sc__law_draw : FnScope N__law_draw ["_law_pool_here", "_law_many"] (defScope st__law_draw) := ⟨rfl, rfl, rfl, by decide +kernel, rfl, by decide +kernel, by decide +kernel⟩
abbrev st__law_some : Stmt := top 64
abbrev N__law_some : List Str := ["_law_pool_here", "_law_count", "_law_k", "_law_own", "_law_way", "_law_every", "_law_term"]
theorem sc__law_some : FnScope N__law_some ["_law_pool_here", "_law_count", "_law_k"] (defScope st__law_some) := ⟨rfl, rfl, rfl, by decide +kernel, rfl, by decide +kernel, by decide +kernel⟩
abbrev st__law_named : Stmt := top 65
abbrev N__law_named : List Str := ["_law_pool_here", "_law_many", "_law_some_here"]
theorem sc__law_named : FnScope N__law_named ["_law_pool_here", "_law_many"] (defScope st__law_named) := ⟨rfl, rfl, rfl, by decide +kernel, rfl, by decide +kernel, by decide +kernel⟩
abbrev st__law_plain : Stmt := top 66
abbrev N__law_plain : List Str := ["_law_pool_here", "_law_many", "_law_count", "_law_begun", "_law_k", "_law_body", "_law_turn", "_law_ends", "_law_side"]
theorem sc__law_plain : FnScope N__law_plain ["_law_pool_here", "_law_many", "_law_count"] (defScope st__law_plain) := ⟨rfl, rfl, rfl, by decide +kernel, rfl, by decide +kernel, by decide +kernel⟩
abbrev st__law_great : Stmt := top 68
abbrev N__law_great : List Str := ["_law_pool_here"]
theorem sc__law_great : FnScope N__law_great ["_law_pool_here"] (defScope st__law_great) := ⟨rfl, rfl, rfl, by decide +kernel, rfl, by decide +kernel, by decide +kernel⟩
abbrev st__law_small : Stmt := top 67
abbrev N__law_small : List Str := ["_law_pool_here"]
theorem sc__law_small : FnScope N__law_small ["_law_pool_here"] (defScope st__law_small) := ⟨rfl, rfl, rfl, by decide +kernel, rfl, by decide +kernel, by decide +kernel⟩
abbrev st_Statistic___eq__ : Stmt := ((bodyC 43).getD 14 (.Pass ⟨0, 0, 0, 0⟩))
abbrev N_Statistic___eq__ : List Str := ["self", "other"]
theorem sc_Statistic___eq__ : FnScope N_Statistic___eq__ ["self", "other"] (defScope st_Statistic___eq__) := ⟨rfl, rfl, rfl, by decide +kernel, rfl, by decide +kernel, by decide +kernel⟩
abbrev st__law_events : Stmt := top 75
abbrev N__law_events : List Str := ["_law_pool_here", "_law_plain_here", "_law_size", "_law_wide", "_law_named_here", "_law_k"]
theorem sc__law_events : FnScope N__law_events ["_law_pool_here", "_law_plain_here", "_law_size", "_law_wide"] (defScope st__law_events) := ⟨rfl, rfl, rfl, by decide +kernel, rfl, by decide +kernel, by decide +kernel⟩
abbrev st__law_source : Stmt := top 70
abbrev N__law_source : List Str := ["_law_term"]
theorem sc__law_source : FnScope N__law_source ["_law_term"] (defScope st__law_source) := ⟨rfl, rfl, rfl, by decide +kernel, rfl, by decide +kernel, by decide +kernel⟩
abbrev st__law_best : Stmt := top 71
abbrev N__law_best : List Str := ["_law_side", "_law_some_here", "_law_found", "_law_value_here"]
theorem sc__law_best : FnScope N__law_best ["_law_side", "_law_some_here"] (defScope st__law_best) := ⟨rfl, rfl, rfl, by decide +kernel, rfl, by decide +kernel, by decide +kernel⟩
abbrev st__law_step : Stmt := top 72
abbrev N__law_step : List Str := ["_law_plain_here", "_law_held", "_law_event", "_law_sources", "_law_found", "_law_k", "_law_terms_here", "_law_some_here", "_law_term", "_law_node", "_law_taken"]
theorem sc__law_step : FnScope N__law_step ["_law_plain_here", "_law_held", "_law_event"] (defScope st__law_step) := ⟨rfl, rfl, rfl, by decide +kernel, rfl, by decide +kernel, by decide +kernel⟩
abbrev st__law_end : Stmt := top 73
abbrev N__law_end : List Str := ["_law_plain_here", "_law_held", "_law_one_end"]
theorem sc__law_end : FnScope N__law_end ["_law_plain_here", "_law_held"] (defScope st__law_end) := ⟨rfl, rfl, rfl, by decide +kernel, rfl, by decide +kernel, by decide +kernel⟩
abbrev st__law_result : Stmt := top 74
abbrev N__law_result : List Str := ["_law_plain_here", "_law_events_here", "_law_held", "_law_event"]
theorem sc__law_result : FnScope N__law_result ["_law_plain_here", "_law_events_here"] (defScope st__law_result) := ⟨rfl, rfl, rfl, by decide +kernel, rfl, by decide +kernel, by decide +kernel⟩
abbrev st_is_amount : Stmt := top 24
abbrev N_is_amount : List Str := ["value"]
theorem sc_is_amount : FnScope N_is_amount ["value"] (defScope st_is_amount) := ⟨rfl, rfl, rfl, by decide +kernel, rfl, by decide +kernel, by decide +kernel⟩
abbrev st_is_event : Stmt := top 25
abbrev N_is_event : List Str := ["value"]
theorem sc_is_event : FnScope N_is_event ["value"] (defScope st_is_event) := ⟨rfl, rfl, rfl, by decide +kernel, rfl, by decide +kernel, by decide +kernel⟩
abbrev st_first_wrong : Stmt := top 26
abbrev N_first_wrong : List Str := ["value", "kinds", "index", "event"]
theorem sc_first_wrong : FnScope N_first_wrong ["value", "kinds"] (defScope st_first_wrong) := ⟨rfl, rfl, rfl, by decide +kernel, rfl, by decide +kernel, by decide +kernel⟩
abbrev st_check_log : Stmt := top 27
abbrev N_check_log : List Str := ["log", "kinds", "wrong"]
theorem sc_check_log : FnScope N_check_log ["log", "kinds"] (defScope st_check_log) := ⟨rfl, rfl, rfl, by decide +kernel, rfl, by decide +kernel, by decide +kernel⟩
abbrev st_source_of : Stmt := top 31
abbrev N_source_of : List Str := ["term"]
theorem sc_source_of : FnScope N_source_of ["term"] (defScope st_source_of) := ⟨rfl, rfl, rfl, by decide +kernel, rfl, by decide +kernel, by decide +kernel⟩
abbrev st_best_of : Stmt := top 33
abbrev N_best_of : List Str := ["side", "values", "found", "value"]
theorem sc_best_of : FnScope N_best_of ["side", "values"] (defScope st_best_of) := ⟨rfl, rfl, rfl, by decide +kernel, rfl, by decide +kernel, by decide +kernel⟩
abbrev st_stepped : Stmt := top 34
abbrev N_stepped : List Str := ["side", "rule", "row", "amount", "held", "slot", "content", "found", "terms", "values", "source", "taken", "term"]
theorem sc_stepped : FnScope N_stepped ["side", "rule", "row", "amount"] (defScope st_stepped) := ⟨rfl, rfl, rfl, by decide +kernel, rfl, by decide +kernel, by decide +kernel⟩
abbrev st_Statistic___getitem__ : Stmt := ((bodyC 43).getD 11 (.Pass ⟨0, 0, 0, 0⟩))
abbrev N_Statistic___getitem__ : List Str := ["self", "kind", "known", "rule"]
theorem sc_Statistic___getitem__ : FnScope N_Statistic___getitem__ ["self", "kind"] (defScope st_Statistic___getitem__) := ⟨rfl, rfl, rfl, by decide +kernel, rfl, by decide +kernel, by decide +kernel⟩
abbrev st_read_out : Stmt := top 35
abbrev N_read_out : List Str := ["side", "result", "held", "slot"]
theorem sc_read_out : FnScope N_read_out ["side", "result", "held"] (defScope st_read_out) := ⟨rfl, rfl, rfl, by decide +kernel, rfl, by decide +kernel, by decide +kernel⟩
abbrev st_Statistic___call__ : Stmt := ((bodyC 43).getD 9 (.Pass ⟨0, 0, 0, 0⟩))
abbrev N_Statistic___call__ : List Str := ["self", "log", "contents", "kind", "amount"]
theorem sc_Statistic___call__ : FnScope N_Statistic___call__ ["self", "log"] (defScope st_Statistic___call__) := ⟨rfl, rfl, rfl, by decide +kernel, rfl, by decide +kernel, by decide +kernel⟩
abbrev st__law_right : Stmt := top 77
abbrev N__law_right : List Str := ["_law_pool_here", "_law_plain_here", "_law_made_here", "_law_good", "_law_mates", "_law_events_here", "_law_due", "_law_mate", "_law_due_side"]
theorem sc__law_right : FnScope N__law_right ["_law_pool_here"] (defScope st__law_right) := ⟨rfl, rfl, rfl, by decide +kernel, rfl, by decide +kernel, by decide +kernel⟩
abbrev st__law_pool : Stmt := top 61
abbrev N__law_pool : List Str := ["_law_cell_here", "_law_digits"]
theorem sc__law_pool : FnScope N__law_pool ["_law_cell_here"] (defScope st__law_pool) := ⟨rfl, rfl, rfl, by decide +kernel, rfl, by decide +kernel, by decide +kernel⟩
abbrev st__law_cell : Stmt := top 60
abbrev N__law_cell : List Str := ["_law_cells", "_law_k", "_law_seed", "_law_part_here"]
theorem sc__law_cell : FnScope N__law_cell ["_law_cells", "_law_k"] (defScope st__law_cell) := ⟨rfl, rfl, rfl, by decide +kernel, rfl, by decide +kernel, by decide +kernel⟩
abbrev st_law : Stmt := top 78
abbrev N_law : List Str := ["_law_cells", "_law_full", "_law_ends", "_law_plain_here", "_law_good", "_law_k"]
theorem sc_law : FnScope N_law ["_law_cells"] (defScope st_law) := ⟨rfl, rfl, rfl, by decide +kernel, rfl, by decide +kernel, by decide +kernel⟩
def isCs : List Str := ["Greatest", "Least", "Statistic"]
def isSub : List (Str × List Str) := [("Greatest", ["Greatest", "Statistic"]), ("Least", ["Least", "Statistic"])]
def eqCs : List Str := ["Greatest", "Least"]
def tatt_ends : List (Str × AK) := [("Greatest", .fld), ("Least", .fld)]
def tatt_rules : List (Str × AK) := [("Greatest", .fld), ("Least", .fld)]
def tatt_start : List (Str × AK) := [("Greatest", .fld), ("Least", .fld)]
def tatt_kinds : List (Str × AK) := [("Greatest", .fld), ("Least", .fld)]
def tatt_SIDE : List (Str × AK) := [("Greatest", .con (D.P.str "greatest")), ("Least", .con (D.P.str "least"))]
def T__law_terms (W : DXr) : DS := SSeq (SAsg (TLst (ACons (TC (P.str "0")) (ANil))) (GN 1)) (SSeq (SFor (IR1 (ACons (TV 0) (ANil))) (GN 2) (SAsg (T2 addD (TV 1) (TLst (ACons (T2 addD (TC (P.str "r")) (TCall strD (ACons (TV 2) (ANil)))) (ACons (T2 addD (T2 addD (TC (P.str "r")) (TCall strD (ACons (TV 2) (ANil)))) (TC (P.str "+x"))) (ANil))))) (GN 1))) (SRet (T2 addD (TV 1) (TLst (ACons (TC (P.str "x")) (ANil))))))
def d__law_terms : DSp := den 1 N__law_terms T__law_terms
def T__law_text (W : DXr) : DS := SSeq (SAsg (TV 0) (GT 5 (GCons (GN 1) (GCons (GN 2) (GCons (GN 3) (GCons (GN 4) (GCons (GN 5) (GNil)))))))) (SSeq (SOwn 6 (NLst (ACons (TV 1) (ACons (T2 addD (TC (P.str "kinds ")) (TM tyS joinD (TC (P.str " ")) (ACons (TV 2) (ANil)))) (ACons (TC (P.str "start")) (ANil)))))) (SSeq (SFor (ISeq (TV 3)) (GN 7) (SAsg (T2 addD (T2 ixD (TV 6) (TC (P.int 2))) (TIf (B2 isD (TV 7) (TC P.non)) (TC (P.str " -")) (TC (P.str " 0")))) (GS (TV 6) (TC (P.int 2))))) (SSeq (SFor (IR1 (ACons (TCall lenD (ACons (TV 2) (ANil))) (ANil))) (GN 8) (SSeq (SOwn 9 (NLst (ANil))) (SSeq (SFor (IR1 (ACons (TCall lenD (ACons (TV 3) (ANil))) (ANil))) (GN 10) (SSeq (SAsg (TIf (B2 neD (T2 ixD (T2 ixD (TV 4) (TV 8)) (TV 10)) (TTup (ANil))) (TM tyS joinD (TC (P.str ", ")) (ACons (T2 ixD (T2 ixD (TV 4) (TV 8)) (TV 10)) (ANil))) (TC (P.str "-"))) (GN 11)) (SExpr (TM tyL appD (TV 9) (ACons (T2 addD (T2 addD (T2 addD (TC (P.str "r")) (TCall strD (ACons (TV 10) (ANil)))) (TC (P.str " = "))) (TV 11)) (ANil)))))) (SExpr (TM tyL appD (TV 6) (ACons (T2 addD (T2 addD (T2 addD (TC (P.str "on ")) (T2 ixD (TV 2) (TV 8))) (TC (P.str ": "))) (TM tyS joinD (TC (P.str "; ")) (ACons (TV 9) (ANil)))) (ANil))))))) (SRet (TM tyS joinD (TC (P.str "\n")) (ACons (T2 addD (TV 6) (TLst (ACons (T2 addD (TC (P.str "result ")) (TM tyS joinD (TC (P.str " ")) (ACons (TV 5) (ANil)))) (ANil)))) (ANil)))))))
def d__law_text : DSp := den 1 N__law_text T__law_text
def T_first_fall (W : DXr) : DS := SSeq (SFor (IEn (ACons (TV 0) (ANil))) (GT 2 (GCons (GN 2) (GCons (GN 3) (GNil)))) (SIf (BOr (BNot (BTru (TCall isiD (ACons (TV 3) (ACons (TC (P.ty "str")) (ANil)))))) (BOr (B2 ninD (TV 3) (TV 1)) (BAnd (B2 gtD (TV 2) (TC (P.int 0))) (B2 leD (TV 3) (T2 ixD (TV 0) (T2 subD (TV 2) (TC (P.int 1)))))))) (SRet (TV 2)) (SNext))) (SRet (TC P.non))
def d_first_fall : DSp := den 2 N_first_fall T_first_fall
def T_is_kind (W : DXr) : DS := SRet (TAnd (TCall isiD (ACons (TV 0) (ACons (TC (P.ty "str")) (ANil)))) (TAnd (TCh leD leD (TC (P.int 1)) (TCall lenD (ACons (TV 0) (ANil))) (TC (P.int 8))) (TCall allD (ACons (TFz (NLc (ISeq (TV 0)) (GN 1) (BYes) (T2 inD (TV 1) (TC (D.P.str "abcdefghijklmnopqrstuvwxyz"))) [1])) (ANil)))))
def d_is_kind : DSp := den 1 N_is_kind T_is_kind
def T_check_kinds (W : DXr) : DS := SSeq (SIf (BOr (BNot (BTru (TCall isiD (ACons (TV 0) (ACons (TC (P.ty "tuple")) (ANil)))))) (BNot (BCh leD leD (TC (P.int 1)) (TCall lenD (ACons (TV 0) (ANil))) (TC (D.P.int 4))))) (SNever) (SNext)) (SSeq (SAsg (TCl W d_first_fall [] (ACons (TV 0) (ACons (TFz (NLc (ISeq (TV 0)) (GN 2) (BTru (TCl noW d_is_kind [] (ACons (TV 2) (ANil)))) (TV 2) [2])) (ANil)))) (GN 1)) (SIf (B2 nisD (TV 1) (TC P.non)) (SNever) (SNext)))
def d_check_kinds : DSp := den 1 N_check_kinds T_check_kinds
def T_is_integer (W : DXr) : DS := SRet (TAnd (TCall isiD (ACons (TV 0) (ACons (TC (P.ty "int")) (ANil)))) (TNot (TCall isiD (ACons (TV 0) (ACons (TC (P.ty "bool")) (ANil))))))
def d_is_integer : DSp := den 1 N_is_integer T_is_integer
def T_check_start (W : DXr) : DS := SSeq (SIf (BOr (BNot (BTru (TCall isiD (ACons (TV 0) (ACons (TC (P.ty "tuple")) (ANil)))))) (BNot (BCh leD leD (TC (P.int 1)) (TCall lenD (ACons (TV 0) (ANil))) (TC (D.P.int 6))))) (SNever) (SNext)) (SFor (IEn (ACons (TV 0) (ANil))) (GT 2 (GCons (GN 1) (GCons (GN 2) (GNil)))) (SIf (BAnd (B2 nisD (TV 2) (TC P.non)) (BOr (BNot (BTru (TCl W d_is_integer [] (ACons (TV 2) (ANil))))) (B2 neD (TV 2) (TC (P.int 0))))) (SNever) (SNext)))
def d_check_start : DSp := den 1 N_check_start T_check_start
def T_terms_of (W : DXr) : DS := SSeq (SOwn 1 (NLst (ACons (TC (P.str "0")) (ANil)))) (SSeq (SFor (ISeq (TSl (TC (D.P.tup [(D.P.str "r0"), (D.P.str "r1"), (D.P.str "r2"), (D.P.str "r3"), (D.P.str "r4"), (D.P.str "r5")])) (ONo) (OPart (TV 0)))) (GN 2) (SExpr (TM tyL extD (TV 1) (ACons (TLst (ACons (TV 2) (ACons (T2 addD (TV 2) (TC (P.str "+x"))) (ANil)))) (ANil))))) (SRet (TLst (AStar (TV 1) (ACons (TC (P.str "x")) (ANil))))))
def d_terms_of : DSp := den 1 N_terms_of T_terms_of
def T_is_rule (W : DXr) : DS := SSeq (SIf (BOr (BNot (BTru (TCall isiD (ACons (TV 0) (ACons (TC (P.ty "tuple")) (ANil)))))) (B2 neD (TCall lenD (ACons (TV 0) (ANil))) (TV 1))) (SRet (TC (P.bl false))) (SNext)) (SSeq (SAsg (TCl W d_terms_of [] (ACons (TV 1) (ANil))) (GN 2)) (SRet (TCall allD (ACons (TFz (NLc (ISeq (TV 0)) (GN 3) (BYes) (TAnd (TCall isiD (ACons (TV 3) (ACons (TC (P.ty "tuple")) (ANil)))) (T2 isD (TCl noW d_first_fall [] (ACons (TV 3) (ACons (TV 2) (ANil)))) (TC P.non))) [3])) (ANil)))))
def d_is_rule : DSp := den 2 N_is_rule T_is_rule
def T_check_rules (W : DXr) : DS := SSeq (SIf (BOr (BNot (BTru (TCall isiD (ACons (TV 0) (ACons (TC (P.ty "tuple")) (ANil)))))) (B2 neD (TCall lenD (ACons (TV 0) (ANil))) (TCall lenD (ACons (TV 1) (ANil))))) (SNever) (SNext)) (SFor (IEn (ACons (TV 0) (ANil))) (GT 2 (GCons (GN 3) (GCons (GN 4) (GNil)))) (SIf (BNot (BTru (TCl W d_is_rule [] (ACons (TV 4) (ACons (TV 2) (ANil)))))) (SNever) (SNext)))
def d_check_rules : DSp := den 3 N_check_rules T_check_rules
def T_check_result (W : DXr) : DS := SSeq (SIf (BOr (BNot (BTru (TCall isiD (ACons (TV 0) (ACons (TC (P.ty "tuple")) (ANil)))))) (B2 eqD (TV 0) (TTup (ANil)))) (SNever) (SNext)) (SSeq (SAsg (TCl W d_first_fall [] (ACons (TV 0) (ACons (TSl (TC (D.P.tup [(D.P.str "r0"), (D.P.str "r1"), (D.P.str "r2"), (D.P.str "r3"), (D.P.str "r4"), (D.P.str "r5")])) (ONo) (OPart (TV 1))) (ANil)))) (GN 2)) (SIf (B2 nisD (TV 2) (TC P.non)) (SNever) (SNext)))
def d_check_result : DSp := den 2 N_check_result T_check_result
def T_Statistic___init__ (W : DXr) : DS := SSeq (SExpr (TCl W d_check_kinds [] (ACons (TV 1) (ANil)))) (SSeq (SExpr (TCl W d_check_start [] (ACons (TV 2) (ANil)))) (SSeq (SExpr (TCl W d_check_rules [] (ACons (TV 3) (ACons (TV 1) (ACons (TCall lenD (ACons (TV 2) (ANil))) (ANil)))))) (SSeq (SExpr (TCl W d_check_result [] (ACons (TV 4) (ACons (TCall lenD (ACons (TV 2) (ANil))) (ANil))))) (SSeq (SFld "kinds" ["Greatest", "Least"] (TV 0) (TV 1)) (SSeq (SFld "start" ["Greatest", "Least"] (TV 0) (TV 2)) (SSeq (SFld "rules" ["Greatest", "Least"] (TV 0) (TV 3)) (SFld "ends" ["Greatest", "Least"] (TV 0) (TV 4))))))))
def d_Statistic___init__ : DSp := den 5 N_Statistic___init__ T_Statistic___init__
def tmk___init___5 : MT := [("Greatest", d_Statistic___init__, [.p 0, .p 1, .p 2, .p 3, .p 4], []), ("Least", d_Statistic___init__, [.p 0, .p 1, .p 2, .p 3, .p 4], [])]
def T__law_of (W : DXr) : DS := SSeq (SIf (B2 eqD (T2 ixD (TV 0) (TC (P.int 0))) (TC (P.str "greatest"))) (SRet (TFz (NMk tmk___init___5 5 0 W (TC (P.cl "Greatest")) (A2p (ACons (T2 ixD (TV 0) (TC (P.int 1))) (ACons (T2 ixD (TV 0) (TC (P.int 2))) (ACons (T2 ixD (TV 0) (TC (P.int 3))) (ACons (T2 ixD (TV 0) (TC (P.int 4))) (ANil))))))))) (SNext)) (SRet (TFz (NMk tmk___init___5 5 0 W (TC (P.cl "Least")) (A2p (ACons (T2 ixD (TV 0) (TC (P.int 1))) (ACons (T2 ixD (TV 0) (TC (P.int 2))) (ACons (T2 ixD (TV 0) (TC (P.int 3))) (ACons (T2 ixD (TV 0) (TC (P.int 4))) (ANil)))))))))
def d__law_of : DSp := den 1 N__law_of T__law_of
def T_lines_of (W : DXr) : DS := SSeq (SAsg (TV 0) (GT 5 (GCons (GN 1) (GCons (GN 2) (GCons (GN 3) (GCons (GN 4) (GCons (GN 5) (GNil)))))))) (SSeq (SAsg (TFz (NLc (ISeq (TV 3)) (GN 7) (BYes) (TIf (B2 isD (TV 7) (TC P.non)) (TC (P.str "-")) (TC (P.str "0"))) [7])) (GN 6)) (SSeq (SOwn 8 (NLst (ACons (TV 1) (ACons (TM tyS joinD (TC (P.str " ")) (ACons (TLst (ACons (TC (P.str "kinds")) (AStar (TV 2) (ANil)))) (ANil))) (ACons (TM tyS joinD (TC (P.str " ")) (ACons (TLst (ACons (TC (P.str "start")) (AStar (TV 6) (ANil)))) (ANil))) (ANil)))))) (SSeq (SFor (IZs (A2k (ACons (TV 2) (ACons (TV 4) (ANil))) (ACons (TC (P.bl true)) (ANil)))) (GT 2 (GCons (GN 9) (GCons (GN 10) (GNil)))) (SSeq (SOwn 11 (NLst (ANil))) (SSeq (SFor (IZs (A2k (ACons (TC (D.P.tup [(D.P.str "r0"), (D.P.str "r1"), (D.P.str "r2"), (D.P.str "r3"), (D.P.str "r4"), (D.P.str "r5")])) (ACons (TV 10) (ANil))) (ACons (TC (P.bl false)) (ANil)))) (GT 2 (GCons (GN 12) (GCons (GN 13) (GNil)))) (SExpr (TM tyL appD (TV 11) (ACons (TFj [TFmt (TV 12), TC (P.str " = "), TFmt (TOr (TM tyS joinD (TC (P.str ", ")) (ACons (TV 13) (ANil))) (TC (P.str "-")))]) (ANil))))) (SExpr (TM tyL appD (TV 8) (ACons (TFj [TC (P.str "on "), TFmt (TV 9), TC (P.str ": "), TFmt (TM tyS joinD (TC (P.str "; ")) (ACons (TV 11) (ANil)))]) (ANil))))))) (SRet (TLst (AStar (TV 8) (ACons (TM tyS joinD (TC (P.str " ")) (ACons (TLst (ACons (TC (P.str "result")) (AStar (TV 5) (ANil)))) (ANil))) (ANil))))))))
def d_lines_of : DSp := den 1 N_lines_of T_lines_of
def T_Statistic_plain (W : DXr) : DS := SRet (TTup (ACons (TAtt "SIDE" tatt_SIDE (TV 0)) (ACons (TAtt "kinds" tatt_kinds (TV 0)) (ACons (TAtt "start" tatt_start (TV 0)) (ACons (TAtt "rules" tatt_rules (TV 0)) (ACons (TAtt "ends" tatt_ends (TV 0)) (ANil)))))))
def d_Statistic_plain : DSp := den 1 N_Statistic_plain T_Statistic_plain
def tatt_plain : List (Str × AK) := [("Greatest", .prop d_Statistic_plain), ("Least", .prop d_Statistic_plain)]
def T_Statistic___str__ (W : DXr) : DS := SRet (TM tyS joinD (TC (P.str "\n")) (ACons (TCl W d_lines_of [] (ACons (TAtt "plain" tatt_plain (TV 0)) (ANil))) (ANil)))
def d_Statistic___str__ : DSp := den 1 N_Statistic___str__ T_Statistic___str__
def tsp___str__ : SpT := [("Greatest", d_Statistic___str__), ("Least", d_Statistic___str__)]
def T_line_at (W : DXr) : DS := SSeq (SIf (B2 geD (TV 1) (TCall lenD (ACons (TV 0) (ANil)))) (SNever) (SNext)) (SRet (T2 ixD (TV 0) (TV 1)))
def d_line_at : DSp := den 2 N_line_at T_line_at
def T_read_words (W : DXr) : DS := SSeq (SAsg (TM tyS splitD (TV 0) (ACons (TC (P.str " ")) (ANil))) (GN 2)) (SRet (TIf (B2 eqD (T2 ixD (TV 2) (TC (P.int 0))) (TV 1)) (TCall tupD (ACons (TSl (TV 2) (OPart (TC (P.int 1))) (ONo)) (ANil))) (TC P.non)))
def d_read_words : DSp := den 2 N_read_words T_read_words
def T_read_kinds (W : DXr) : DS := SSeq (SAsg (TCl W d_read_words [] (ACons (TV 0) (ACons (TC (P.str "kinds")) (ANil)))) (GN 1)) (SSeq (SIf (BOr (B2 isD (TV 1) (TC P.non)) (BNot (BCh leD leD (TC (P.int 1)) (TCall lenD (ACons (TV 1) (ANil))) (TC (D.P.int 4))))) (SNever) (SNext)) (SSeq (SIf (B2 nisD (TCl W d_first_fall [] (ACons (TV 1) (ACons (TFz (NLc (ISeq (TV 1)) (GN 2) (BTru (TCl noW d_is_kind [] (ACons (TV 2) (ANil)))) (TV 2) [2])) (ANil)))) (TC P.non)) (SNever) (SNext)) (SRet (TV 1))))
def d_read_kinds : DSp := den 1 N_read_kinds T_read_kinds
def T_read_start (W : DXr) : DS := SSeq (SAsg (TCl W d_read_words [] (ACons (TV 0) (ACons (TC (P.str "start")) (ANil)))) (GN 1)) (SSeq (SIf (BOr (B2 isD (TV 1) (TC P.non)) (BOr (BNot (BCh leD leD (TC (P.int 1)) (TCall lenD (ACons (TV 1) (ANil))) (TC (D.P.int 6)))) (BTru (TCall anyD (ACons (TFz (NLc (ISeq (TV 1)) (GN 2) (BYes) (T2 ninD (TV 2) (TTup (ACons (TC (P.str "0")) (ACons (TC (P.str "-")) (ANil))))) [2])) (ANil)))))) (SNever) (SNext)) (SRet (TCall tupD (ACons (TFz (NLc (ISeq (TV 1)) (GN 2) (BYes) (TIf (B2 eqD (TV 2) (TC (P.str "0"))) (TC (P.int 0)) (TC P.non)) [2])) (ANil)))))
def d_read_start : DSp := den 1 N_read_start T_read_start
def T_read_terms (W : DXr) : DS := SSeq (SAsg (TM tyS partD (TV 0) (ACons (TC (P.str " = ")) (ANil))) (GT 3 (GCons (GN 3) (GCons (GN 4) (GCons (GN 5) (GNil)))))) (SSeq (SIf (BOr (B2 neD (TV 3) (TV 1)) (B2 eqD (TV 4) (TC (P.str "")))) (SRet (TC P.non)) (SNext)) (SSeq (SAsg (TIf (B2 eqD (TV 5) (TC (P.str "-"))) (TTup (ANil)) (TCall tupD (ACons (TM tyS splitD (TV 5) (ACons (TC (P.str ", ")) (ANil))) (ANil)))) (GN 6)) (SRet (TIf (B2 isD (TCl W d_first_fall [] (ACons (TV 6) (ACons (TCl W d_terms_of [] (ACons (TV 2) (ANil))) (ANil)))) (TC P.non)) (TV 6) (TC P.non)))))
def d_read_terms : DSp := den 3 N_read_terms T_read_terms
def T_read_rule (W : DXr) : DS := SSeq (SIf (BNot (BTru (TM tyS stsD (TV 0) (ACons (TFj [TC (P.str "on "), TFmt (TV 1), TC (P.str ": ")]) (ANil))))) (SRet (TC P.non)) (SNext)) (SSeq (SAsg (TM tyS splitD (TM tyS rmpD (TV 0) (ACons (TFj [TC (P.str "on "), TFmt (TV 1), TC (P.str ": ")]) (ANil))) (ACons (TC (P.str "; ")) (ANil))) (GN 3)) (SSeq (SIf (B2 neD (TCall lenD (ACons (TV 3) (ANil))) (TV 2)) (SRet (TC P.non)) (SNext)) (SSeq (SAsg (TFz (NLc (IEn (ACons (TV 3) (ANil))) (GT 2 (GCons (GN 5) (GCons (GN 6) (GNil)))) (BYes) (TCl noW d_read_terms [] (ACons (TV 6) (ACons (T2 ixD (TC (D.P.tup [(D.P.str "r0"), (D.P.str "r1"), (D.P.str "r2"), (D.P.str "r3"), (D.P.str "r4"), (D.P.str "r5")])) (TV 5)) (ACons (TV 2) (ANil))))) [5, 6])) (GN 4)) (SRet (TIf (B2 inD (TC P.non) (TV 4)) (TC P.non) (TCall tupD (ACons (TV 4) (ANil))))))))
def d_read_rule : DSp := den 3 N_read_rule T_read_rule
def T_made (W : DXr) : DS := SSeq (SIf (B2 eqD (TV 0) (TC (P.str "greatest"))) (SRet (TFz (NMk tmk___init___5 5 0 W (TC (P.cl "Greatest")) (A2p (ACons (TV 1) (ACons (TV 2) (ACons (TV 3) (ACons (TV 4) (ANil))))))))) (SNext)) (SRet (TFz (NMk tmk___init___5 5 0 W (TC (P.cl "Least")) (A2p (ACons (TV 1) (ACons (TV 2) (ACons (TV 3) (ACons (TV 4) (ANil)))))))))
def d_made : DSp := den 5 N_made T_made
def T_read_lines (W : DXr) : DS := SSeq (SAsg (TCl W d_line_at [] (ACons (TV 0) (ACons (TC (P.int 0)) (ANil)))) (GN 1)) (SSeq (SIf (B2 ninD (TV 1) (TTup (ACons (TC (P.str "greatest")) (ACons (TC (P.str "least")) (ANil))))) (SNever) (SNext)) (SSeq (SAsg (TCl W d_read_kinds [] (ACons (TCl W d_line_at [] (ACons (TV 0) (ACons (TC (P.int 1)) (ANil)))) (ANil))) (GN 2)) (SSeq (SAsg (TCl W d_read_start [] (ACons (TCl W d_line_at [] (ACons (TV 0) (ACons (TC (P.int 2)) (ANil)))) (ANil))) (GN 3)) (SSeq (SOwn 4 (NLst (ANil))) (SSeq (SFor (IEs (A2k (ACons (TV 2) (ANil)) (ACons (TC (P.int 3)) (ANil)))) (GT 2 (GCons (GN 5) (GCons (GN 6) (GNil)))) (SSeq (SAsg (TCl W d_read_rule [] (ACons (TCl W d_line_at [] (ACons (TV 0) (ACons (TV 5) (ANil)))) (ACons (TV 6) (ACons (TCall lenD (ACons (TV 3) (ANil))) (ANil))))) (GN 7)) (SSeq (SIf (B2 isD (TV 7) (TC P.non)) (SNever) (SNext)) (SExpr (TM tyL appD (TV 4) (ACons (TV 7) (ANil))))))) (SSeq (SAsg (T2 addD (TC (P.int 3)) (TCall lenD (ACons (TV 2) (ANil)))) (GN 5)) (SSeq (SAsg (TCl W d_read_words [] (ACons (TCl W d_line_at [] (ACons (TV 0) (ACons (TV 5) (ANil)))) (ACons (TC (P.str "result")) (ANil)))) (GN 8)) (SSeq (SIf (BOr (B2 isD (TV 8) (TC P.non)) (BOr (B2 eqD (TV 8) (TTup (ANil))) (B2 nisD (TCl W d_first_fall [] (ACons (TV 8) (ACons (TSl (TC (D.P.tup [(D.P.str "r0"), (D.P.str "r1"), (D.P.str "r2"), (D.P.str "r3"), (D.P.str "r4"), (D.P.str "r5")])) (ONo) (OPart (TCall lenD (ACons (TV 3) (ANil))))) (ANil)))) (TC P.non)))) (SNever) (SNext)) (SSeq (SIf (B2 gtD (TCall lenD (ACons (TV 0) (ANil))) (T2 addD (TV 5) (TC (P.int 1)))) (SNever) (SNext)) (SRet (TCl W d_made [] (ACons (TV 1) (ACons (TV 2) (ACons (TV 3) (ACons (TCall tupD (ACons (TV 4) (ANil))) (ACons (TV 8) (ANil)))))))))))))))))
def d_read_lines : DSp := den 1 N_read_lines T_read_lines
def T_Statistic_read (W : DXr) : DS := SSeq (SIf (BNot (BTru (TCall isiD (ACons (TV 0) (ACons (TC (P.ty "str")) (ANil)))))) (SNever) (SNext)) (SRet (TCl W d_read_lines [] (ACons (TM tyS splitD (TV 0) (ACons (TC (P.str "\n")) (ANil))) (ANil))))
def d_Statistic_read : DSp := den 1 N_Statistic_read T_Statistic_read
def tsm_read_1 : MT := [("Statistic", d_Statistic_read, [.p 0], []), ("Greatest", d_Statistic_read, [.p 0], []), ("Least", d_Statistic_read, [.p 0], [])]
def tsm_read_0_text : MT := [("Statistic", d_Statistic_read, [.k 0], []), ("Greatest", d_Statistic_read, [.k 0], []), ("Least", d_Statistic_read, [.k 0], [])]
def T__law_draw (W : DXr) : DS := SSeq (SAsg (T2 addD (T2 ixD (TV 0) (TC (P.int 2))) (TC (P.int 1))) (GS (TV 0) (TC (P.int 2)))) (SSeq (SAsg (T2 ixD (TV 0) (TC (P.int 0))) (GN 2)) (SSeq (SAsg (T2 modD (T2 addD (T2 addD (T2 mulD (TV 2) (T2 addD (T2 modD (TV 2) (TC (P.int 40993))) (TC (P.int 30013)))) (T2 mulD (TC (P.int 70001)) (T2 ixD (TV 0) (TC (P.int 2))))) (TC (P.int 9))) (TC (P.int 2147483179))) (GS (TV 0) (TC (P.int 0)))) (SSeq (SIf (B2 gtD (T2 ixD (TV 0) (TC (P.int 1))) (TC (P.int 0))) (SSeq (SAsg (TCall divmodD (ACons (T2 ixD (TV 0) (TC (P.int 1))) (ACons (TV 1) (ANil)))) (GT 2 (GCons (GS (TV 0) (TC (P.int 1))) (GCons (GN 3) (GNil))))) (SRet (TV 3))) (SNext)) (SRet (T2 modD (T2 fdivD (T2 ixD (TV 0) (TC (P.int 0))) (TC (P.int 64))) (TV 1))))))
def d__law_draw : DSp := den 2 N__law_draw T__law_draw
def T__law_some (W : DXr) : DS := SSeq (SAsg (TTup (ACons (T2 addD (TC (P.str "r")) (TCall strD (ACons (TV 2) (ANil)))) (ACons (TCl W d__law_draw [] (ACons (TV 0) (ACons (TC (P.int 8)) (ANil)))) (ANil)))) (GT 2 (GCons (GN 3) (GCons (GN 4) (GNil))))) (SSeq (SIf (B2 ltD (TV 4) (TC (P.int 5))) (SRet (T2 ixD (TLst (ACons (TTup (ACons (TV 3) (ANil))) (ACons (TTup (ACons (T2 addD (TV 3) (TC (P.str "+x"))) (ANil))) (ACons (TTup (ACons (T2 addD (TV 3) (TC (P.str "+x"))) (ACons (TC (P.str "x")) (ANil)))) (ACons (TTup (ACons (TC (P.str "0")) (ANil))) (ACons (TTup (ANil)) (ANil))))))) (TV 4))) (SNext)) (SSeq (SAsg (TCl W d__law_terms [] (ACons (TV 1) (ANil))) (GN 5)) (SRet (TCall tupD (ACons (TFz (NLc (ISeq (TV 5)) (GN 6) (B2 ltD (TCl noW d__law_draw [] (ACons (TV 0) (ACons (TCall lenD (ACons (TV 5) (ANil))) (ANil)))) (TC (P.int 3))) (TV 6) [6])) (ANil))))))
def d__law_some : DSp := den 3 N__law_some T__law_some
def T__law_named (W : DXr) : DS := SSeq (SAsg (TLst (ACons (TLst (ACons (TC (P.str "a")) (ACons (TC (P.str "b")) (ACons (TC (P.str "c")) (ACons (TC (P.str "d")) (ANil)))))) (ACons (TLst (ACons (TC (P.str "buy")) (ACons (TC (P.str "deal")) (ACons (TC (P.str "new")) (ACons (TC (P.str "sell")) (ANil)))))) (ACons (TLst (ACons (TC (P.str "a")) (ACons (TC (P.str "aa")) (ACons (TC (P.str "ab")) (ACons (TC (P.str "b")) (ANil)))))) (ACons (TLst (ACons (TC (P.str "k")) (ACons (TC (P.str "z")) (ACons (TC (P.str "zz")) (ACons (TC (P.str "zzzzzzzz")) (ANil)))))) (ANil)))))) (GN 2)) (SSeq (SAsg (T2 addD (TV 2) (TLst (ACons (TLst (ACons (TC (P.str "kinds")) (ACons (TC (P.str "on")) (ACons (TC (P.str "result")) (ACons (TC (P.str "x")) (ANil)))))) (ACons (TLst (ACons (TC (P.str "greatest")) (ACons (TC (P.str "least")) (ACons (TC (P.str "on")) (ACons (TC (P.str "start")) (ANil)))))) (ANil))))) (GN 2)) (SRet (TCall tupD (ACons (TSl (T2 ixD (TV 2) (TCl W d__law_draw [] (ACons (TV 0) (ACons (TC (P.int 6)) (ANil))))) (ONo) (OPart (TV 1))) (ANil)))))
def d__law_named : DSp := den 2 N__law_named T__law_named
def T__law_plain (W : DXr) : DS := SSeq (SAsg (TCall tupD (ACons (TFz (NLc (IR1 (ACons (TV 2) (ANil))) (GN 4) (BYes) (T2 ixD (TLst (ACons (TC (P.int 0)) (ACons (TC P.non) (ANil)))) (TCl noW d__law_draw [] (ACons (TV 0) (ACons (TC (P.int 2)) (ANil))))) [4])) (ANil))) (GN 3)) (SSeq (SAsg (TCall tupD (ACons (TFz (NLc (IR1 (ACons (TV 1) (ANil))) (GN 6) (BYes) (TCall tupD (ACons (TFz (NLc (IR1 (ACons (TV 2) (ANil))) (GN 4) (BYes) (TCl noW d__law_some [] (ACons (TV 0) (ACons (TV 2) (ACons (TV 4) (ANil))))) [4])) (ANil))) [6])) (ANil))) (GN 5)) (SSeq (SAsg (TFz (NLc (IR1 (ACons (TV 2) (ANil))) (GN 4) (B2 eqD (TCl noW d__law_draw [] (ACons (TV 0) (ACons (TC (P.int 3)) (ANil)))) (TC (P.int 1))) (TV 4) [4])) (GN 7)) (SSeq (SAsg (TIf (B2 eqD (TV 7) (TLst (ANil))) (TLst (ACons (T2 subD (TV 2) (TC (P.int 1))) (ANil))) (TV 7)) (GN 7)) (SSeq (SAsg (T2 ixD (TLst (ACons (TC (P.str "greatest")) (ACons (TC (P.str "least")) (ANil)))) (TCl W d__law_draw [] (ACons (TV 0) (ACons (TC (P.int 2)) (ANil))))) (GN 8)) (SRet (TTup (ACons (TV 8) (ACons (TCl W d__law_named [] (ACons (TV 0) (ACons (TV 1) (ANil)))) (ACons (TV 3) (ACons (TV 5) (ACons (TCall tupD (ACons (TFz (NLc (ISeq (TV 7)) (GN 4) (BYes) (T2 addD (TC (P.str "r")) (TCall strD (ACons (TV 4) (ANil)))) [4])) (ANil))) (ANil))))))))))))
def d__law_plain : DSp := den 3 N__law_plain T__law_plain
def T__law_great (W : DXr) : DS := SRet (TCl W d__law_plain [] (ACons (TV 0) (ACons (T2 addD (TC (P.int 1)) (TCl W d__law_draw [] (ACons (TV 0) (ACons (TC (P.int 4)) (ANil))))) (ACons (T2 addD (TC (P.int 1)) (TCl W d__law_draw [] (ACons (TV 0) (ACons (TC (P.int 6)) (ANil))))) (ANil)))))
def d__law_great : DSp := den 1 N__law_great T__law_great
def T__law_small (W : DXr) : DS := SRet (TCl W d__law_plain [] (ACons (TV 0) (ACons (T2 addD (TC (P.int 1)) (TCl W d__law_draw [] (ACons (TV 0) (ACons (TC (P.int 2)) (ANil))))) (ACons (T2 addD (TC (P.int 1)) (TCl W d__law_draw [] (ACons (TV 0) (ACons (TC (P.int 3)) (ANil))))) (ANil)))))
def d__law_small : DSp := den 1 N__law_small T__law_small
def T_Statistic___eq__ (W : DXr) : DS := SRet (TAnd (TCall (isiX isCs isSub) (ACons (TV 1) (ACons (TC (P.cl "Statistic")) (ANil)))) (T2 eqD (TAtt "plain" tatt_plain (TV 0)) (TAtt "plain" tatt_plain (TV 1))))
def d_Statistic___eq__ : DSp := den 2 N_Statistic___eq__ T_Statistic___eq__
def tsp___eq__ : SpT := [("Greatest", d_Statistic___eq__), ("Least", d_Statistic___eq__)]
def T__law_events (W : DXr) : DS := SSeq (SAsg (T2 ixD (TV 1) (TC (P.int 1))) (GN 4)) (SRet (TCall tupD (ACons (TFz (NLc (IR1 (ACons (TV 2) (ANil))) (GN 5) (BYes) (TTup (ACons (T2 ixD (TV 4) (TCl noW d__law_draw [] (ACons (TV 0) (ACons (TCall lenD (ACons (TV 4) (ANil))) (ANil))))) (ACons (T2 subD (TCl noW d__law_draw [] (ACons (TV 0) (ACons (T2 addD (T2 mulD (TC (P.int 2)) (TV 3)) (TC (P.int 1))) (ANil)))) (TV 3)) (ANil)))) [5])) (ANil))))
def d__law_events : DSp := den 4 N__law_events T__law_events
def T__law_source (W : DXr) : DS := SSeq (SIf (B2 inD (TV 0) (TLst (ACons (TC (P.str "0")) (ACons (TC (P.str "x")) (ANil))))) (SRet (TTup (ACons (TC (P.str "0")) (ACons (T2 eqD (TV 0) (TC (P.str "x"))) (ANil))))) (SNext)) (SRet (TTup (ACons (TSl (TV 0) (ONo) (OPart (TC (P.int 2)))) (ACons (T2 gtD (TCall lenD (ACons (TV 0) (ANil))) (TC (P.int 2))) (ANil)))))
def d__law_source : DSp := den 1 N__law_source T__law_source
def T__law_best (W : DXr) : DS := SSeq (SAsg (TFz (NLc (ISeq (TV 1)) (GN 3) (B2 nisD (TV 3) (TC P.non)) (TV 3) [3])) (GN 2)) (SSeq (SIf (B2 eqD (TV 2) (TLst (ANil))) (SRet (TC P.non)) (SNext)) (SRet (TIf (B2 eqD (TV 0) (TC (P.str "greatest"))) (TCall maxD (ACons (TV 2) (ANil))) (TCall minD (ACons (TV 2) (ANil))))))
def d__law_best : DSp := den 2 N__law_best T__law_best
def T__law_step (W : DXr) : DS := SSeq (SOw2 3 4 (NDct [(TC (P.str "0"), TC (P.int 0))])) (SSeq (SFor (IR1 (ACons (TCall lenD (ACons (TV 1) (ANil))) (ANil))) (GN 5) (SAsg (T2 (ixY ixD) (TV 1) (TV 5)) (GSY (TV 3) (T2 addD (TC (P.str "r")) (TCall strD (ACons (TV 5) (ANil))))))) (SSeq (SFor (ISeq (T2 (ixY ixD) (T2 (ixY ixD) (TV 0) (TC (P.int 3))) (TM tyT indexD (T2 (ixY ixD) (TV 0) (TC (P.int 1))) (ACons (T2 (ixY ixD) (TV 2) (TC (P.int 0))) (ANil))))) (GN 6) (SSeq (SOwn 7 (NLst (ANil))) (SSeq (SFor (ISeq (TV 6)) (GN 8) (SSeq (SAsg (TCl W d__law_source [] (ACons (TV 8) (ANil))) (GT 2 (GCons (GN 9) (GCons (GN 10) (GNil))))) (SIf (B2 nisD (T2 (ixY ixD) (TV 3) (TV 9)) (TC P.non)) (SExpr (TM tyL appD (TV 7) (ACons (T2 addD (T2 (ixY ixD) (TV 3) (TV 9)) (T2 mulD (T2 (ixY ixD) (TV 2) (TC (P.int 1))) (TCall intD (ACons (TV 10) (ANil))))) (ANil)))) (SNext)))) (SExpr (TM tyL appD (TV 4) (ACons (TCl W d__law_best [] (ACons (T2 (ixY ixD) (TV 0) (TC (P.int 0))) (ACons (TF 7) (ANil)))) (ANil))))))) (SRet (TCall tupD (ACons (TV 4) (ANil))))))
def d__law_step : DSp := den 3 N__law_step T__law_step
def T__law_end (W : DXr) : DS := SRet (TCl W d__law_best [] (ACons (T2 ixD (TV 0) (TC (P.int 0))) (ACons (TFz (NLc (ISeq (T2 ixD (TV 0) (TC (P.int 4)))) (GN 2) (BYes) (T2 ixD (TV 1) (TCall intD (ACons (TSl (TV 2) (OPart (TC (P.int 1))) (ONo)) (ANil)))) [2])) (ANil))))
def d__law_end : DSp := den 2 N__law_end T__law_end
def T__law_result (W : DXr) : DS := SSeq (SAsg (T2 ixD (TV 0) (TC (P.int 2))) (GN 2)) (SSeq (SFor (ISeq (TV 1)) (GN 3) (SAsg (TCl W d__law_step [] (ACons (TV 0) (ACons (TV 2) (ACons (TV 3) (ANil))))) (GN 2))) (SRet (TCl W d__law_end [] (ACons (TV 0) (ACons (TV 2) (ANil))))))
def d__law_result : DSp := den 2 N__law_result T__law_result
def T_is_amount (W : DXr) : DS := SRet (TAnd (TCl W d_is_integer [] (ACons (TV 0) (ANil))) (TCh leD leD (T1 negD (TC (D.P.int 1000000000000000000000000000000))) (TV 0) (TC (D.P.int 1000000000000000000000000000000))))
def d_is_amount : DSp := den 1 N_is_amount T_is_amount
def T_is_event (W : DXr) : DS := SRet (TAnd (TCall isiD (ACons (TV 0) (ACons (TC (P.ty "tuple")) (ANil)))) (TAnd (T2 eqD (TCall lenD (ACons (TV 0) (ANil))) (TC (P.int 2))) (TAnd (TCl W d_is_kind [] (ACons (T2 ixD (TV 0) (TC (P.int 0))) (ANil))) (TCl W d_is_amount [] (ACons (T2 ixD (TV 0) (TC (P.int 1))) (ANil))))))
def d_is_event : DSp := den 1 N_is_event T_is_event
def T_first_wrong (W : DXr) : DS := SSeq (SIf (BOr (BNot (BTru (TCall isiD (ACons (TV 0) (ACons (TC (P.ty "tuple")) (ANil)))))) (B2 gtD (TCall lenD (ACons (TV 0) (ANil))) (TC (D.P.int 1000)))) (SRet (TTup (ACons (TC P.non) (ANil)))) (SNext)) (SSeq (SFor (IEn (ACons (TV 0) (ANil))) (GT 2 (GCons (GN 2) (GCons (GN 3) (GNil)))) (SIf (BOr (BNot (BTru (TCl W d_is_event [] (ACons (TV 3) (ANil))))) (BAnd (B2 nisD (TV 1) (TC P.non)) (B2 ninD (T2 ixD (TV 3) (TC (P.int 0))) (TV 1)))) (SRet (TTup (ACons (TV 2) (ANil)))) (SNext))) (SRet (TC P.non)))
def d_first_wrong : DSp := den 2 N_first_wrong T_first_wrong
def T_check_log (W : DXr) : DS := SIf (BW 2 nisD (TCl W d_first_wrong [] (ACons (TV 0) (ACons (TV 1) (ANil)))) (TC P.non)) (SNever) (SNext)
def d_check_log : DSp := den 2 N_check_log T_check_log
def T_source_of (W : DXr) : DS := SSeq (SIf (B2 inD (TV 0) (TTup (ACons (TC (P.str "0")) (ACons (TC (P.str "x")) (ANil))))) (SRet (TTup (ACons (TC (P.str "0")) (ACons (T2 eqD (TV 0) (TC (P.str "x"))) (ANil))))) (SNext)) (SRet (TTup (ACons (TSl (TV 0) (ONo) (OPart (TC (P.int 2)))) (ACons (T2 gtD (TCall lenD (ACons (TV 0) (ANil))) (TC (P.int 2))) (ANil)))))
def d_source_of : DSp := den 1 N_source_of T_source_of
def T_best_of (W : DXr) : DS := SSeq (SAsg (TFz (NLc (ISeq (TV 1)) (GN 3) (B2 nisD (TV 3) (TC P.non)) (TV 3) [3])) (GN 2)) (SSeq (SIf (B2 eqD (TV 2) (TLst (ANil))) (SRet (TC P.non)) (SNext)) (SRet (TIf (B2 eqD (TV 0) (TC (P.str "greatest"))) (TCall maxD (ACons (TV 2) (ANil))) (TCall minD (ACons (TV 2) (ANil))))))
def d_best_of : DSp := den 2 N_best_of T_best_of
def T_stepped (W : DXr) : DS := SSeq (SAsg (TOr2 (TFz (NDct [(TC (P.str "0"), TC (P.int 0))])) (TFz (NDc (IZs (A2k (ACons (TC (D.P.tup [(D.P.str "r0"), (D.P.str "r1"), (D.P.str "r2"), (D.P.str "r3"), (D.P.str "r4"), (D.P.str "r5")])) (ACons (TV 2) (ANil))) (ACons (TC (P.bl false)) (ANil)))) (GT 2 (GCons (GN 5) (GCons (GN 6) (GNil)))) (BYes) (TV 5) (TV 6) [5, 6]))) (GN 4)) (SSeq (SOwn 7 (NLst (ANil))) (SSeq (SFor (ISeq (TV 1)) (GN 8) (SSeq (SOwn 9 (NLst (ANil))) (SSeq (SFor (ISeq (TFz (NLc (ISeq (TV 8)) (GN 12) (BYes) (TCl noW d_source_of [] (ACons (TV 12) (ANil))) [12]))) (GT 2 (GCons (GN 10) (GCons (GN 11) (GNil)))) (SIf (B2 nisD (T2 (ixY ixD) (TV 4) (TV 10)) (TC P.non)) (SExpr (TM tyL appD (TV 9) (ACons (TIf (BTru (TV 11)) (T2 addD (T2 (ixY ixD) (TV 4) (TV 10)) (TV 3)) (T2 (ixY ixD) (TV 4) (TV 10))) (ANil)))) (SNext))) (SExpr (TM tyL appD (TV 7) (ACons (TCl W d_best_of [] (ACons (TV 0) (ACons (TF 9) (ANil)))) (ANil))))))) (SRet (TCall tupD (ACons (TV 7) (ANil))))))
def d_stepped : DSp := den 4 N_stepped T_stepped
def T_Statistic___getitem__ (W : DXr) : DS := SSeq (SIf (BTru (TCall isiD (ACons (TV 1) (ACons (TC (P.ty "str")) (ANil))))) (SFor (IZs (A2k (ACons (TAtt "kinds" tatt_kinds (TV 0)) (ACons (TAtt "rules" tatt_rules (TV 0)) (ANil))) (ACons (TC (P.bl true)) (ANil)))) (GT 2 (GCons (GN 2) (GCons (GN 3) (GNil)))) (SIf (B2 eqD (TV 2) (TV 1)) (SRet (TV 3)) (SNext))) (SNext)) (SNever)
def d_Statistic___getitem__ : DSp := den 2 N_Statistic___getitem__ T_Statistic___getitem__
def tsp___getitem__ : SpT := [("Greatest", d_Statistic___getitem__), ("Least", d_Statistic___getitem__)]
def T_read_out (W : DXr) : DS := SRet (TCl W d_best_of [] (ACons (TV 0) (ACons (TFz (NLc (ISeq (TV 1)) (GN 3) (BYes) (T2 ixD (TV 2) (TCall intD (ACons (TSl (TV 3) (OPart (TC (P.int 1))) (ONo)) (ANil)))) [3])) (ANil))))
def d_read_out : DSp := den 3 N_read_out T_read_out
def T_Statistic___call__ (W : DXr) : DS := SSeq (SExpr (TCl W d_check_log [] (ACons (TV 1) (ACons (TAtt "kinds" tatt_kinds (TV 0)) (ANil))))) (SSeq (SAsg (TAtt "start" tatt_start (TV 0)) (GN 2)) (SSeq (SFor (ISeq (TV 1)) (GT 2 (GCons (GN 3) (GCons (GN 4) (GNil)))) (SAsg (TCl W d_stepped [] (ACons (TAtt "SIDE" tatt_SIDE (TV 0)) (ACons (T2 (ixX tsp___getitem__) (TV 0) (TV 3)) (ACons (TV 2) (ACons (TV 4) (ANil)))))) (GN 2))) (SRet (TCl W d_read_out [] (ACons (TAtt "SIDE" tatt_SIDE (TV 0)) (ACons (TAtt "ends" tatt_ends (TV 0)) (ACons (TV 2) (ANil))))))))
def d_Statistic___call__ : DSp := den 2 N_Statistic___call__ T_Statistic___call__
def tinst___call___2 : MT := [("Greatest", d_Statistic___call__, [.p 0, .p 1], []), ("Least", d_Statistic___call__, [.p 0, .p 1], [])]
def T__law_right (W : DXr) : DS := SSeq (SAsg (T2 ixD (TLst (ACons (TCl W d__law_small [] (ACons (TV 0) (ANil))) (ACons (TCl W d__law_great [] (ACons (TV 0) (ANil))) (ANil)))) (TCl W d__law_draw [] (ACons (TV 0) (ACons (TC (P.int 2)) (ANil))))) (GN 1)) (SSeq (SAsg (TTup (ACons (TCl W d__law_of [] (ACons (TV 1) (ANil))) (ACons (TCl W d__law_text [] (ACons (TV 1) (ANil))) (ANil)))) (GT 2 (GCons (GN 2) (GCons (GN 3) (GNil))))) (SSeq (SIf (BOr (B2 (neX eqCs tsp___eq__) (TCall (strX tsp___str__) (ACons (TV 2) (ANil))) (TV 3)) (B2 (neX eqCs tsp___eq__) (TCall (strX tsp___str__) (ACons (TV 2) (ANil))) (TV 3))) (SRet (TC (P.bl false))) (SNext)) (SSeq (SAsg (TLst (ACons (TSm tsm_read_1 1 0 W (TC (P.cl "Statistic")) (A2p (ACons (TV 3) (ANil)))) (ACons (TSm tsm_read_0_text 0 1 W (TC (P.cl "Statistic")) (A2k ANil (ACons (TV 3) (ANil)))) (ACons (TSm tsm_read_1 1 0 W (TC (P.cl "Greatest")) (A2p (ACons (TV 3) (ANil)))) (ACons (TSm tsm_read_1 1 0 W (TC (P.cl "Least")) (A2p (ACons (TV 3) (ANil)))) (ANil)))))) (GN 4)) (SSeq (SAsg (TCl W d__law_events [] (ACons (TV 0) (ACons (TV 1) (ACons (TC (P.int 6)) (ACons (TC (P.int 9)) (ANil)))))) (GN 5)) (SSeq (SAsg (TCall reprD (ACons (TLst (ACons (TV 1) (ACons (TCl W d__law_result [] (ACons (TV 1) (ACons (TV 5) (ANil)))) (ACons (TV 3) (ANil))))) (ANil))) (GN 6)) (SSeq (SFor (ISeq (TV 4)) (GN 7) (SSeq (SIf (BOr (BNot (B2 (eqX eqCs tsp___eq__) (TV 7) (TV 2))) (B2 (neX eqCs tsp___eq__) (TCall reprD (ACons (TLst (ACons (TAtt "plain" tatt_plain (TV 7)) (ACons (TInst tinst___call___2 2 0 W (TV 7) (A2p (ACons (TV 5) (ANil)))) (ACons (TCall (strX tsp___str__) (ACons (TV 7) (ANil))) (ANil))))) (ANil))) (TV 6))) (SRet (TC (P.bl false))) (SNext)) (SSeq (SAsg (TLst (ACons (T2 (eqX eqCs tsp___eq__) (T2 ixD (TV 1) (TC (P.int 0))) (TC (P.str "greatest"))) (ACons (T2 (eqX eqCs tsp___eq__) (T2 ixD (TV 1) (TC (P.int 0))) (TC (P.str "least"))) (ANil)))) (GN 8)) (SIf (B2 (neX eqCs tsp___eq__) (TLst (ACons (TCall (isiX isCs isSub) (ACons (TV 7) (ACons (TC (P.cl "Greatest")) (ANil)))) (ACons (TCall (isiX isCs isSub) (ACons (TV 7) (ACons (TC (P.cl "Least")) (ANil)))) (ANil)))) (TV 8)) (SRet (TC (P.bl false))) (SNext))))) (SRet (TC (P.bl true)))))))))
def d__law_right : DSp := den 1 N__law_right T__law_right
def T__law_pool (W : DXr) : DS := SSeq (SAsg (TIf (BOr (B2 ltD (TV 0) (TC (P.int 0))) (B2 geD (TV 0) (T2 powD (TC (P.int 10)) (TC (P.int 18))))) (TCall absD (ACons (TV 0) (ANil))) (TC (P.int 0))) (GN 1)) (SRet (TLstS (ACons (T2 modD (TV 0) (TC (P.int 2147483179))) (ACons (TV 1) (ACons (TC (P.int 0)) (ANil))))))
def d__law_pool : DSp := den 1 N__law_pool T__law_pool
def T__law_cell (W : DXr) : DS := SSeq (SIf (B2 ltD (TV 1) (TCall lenD (ACons (TV 0) (ANil)))) (SRet (T2 ixD (TV 0) (TV 1))) (SNext)) (SSeq (SAsg (T2 modD (T2 mulD (TC (P.int 70009)) (T2 addD (T2 addD (T2 mulD (TV 1) (TV 1)) (T2 mulD (TC (P.int 7)) (TV 1))) (TC (P.int 19)))) (TC (P.int 2147483179))) (GN 2)) (SSeq (SFor (ISeq (TSl (TV 0) (ONo) (OPart (TC (P.int 3))))) (GN 3) (SAsg (T2 modD (T2 addD (T2 mulD (TV 2) (TC (P.int 42019))) (TV 3)) (TC (P.int 2147483179))) (GN 2))) (SRet (TV 2))))
def d__law_cell : DSp := den 2 N__law_cell T__law_cell
def T_law (W : DXr) : DS := SSeq (SAsg (TCall tupD (ACons (TCl W d__law_terms [] (ACons (TC (P.int 6)) (ANil))) (ANil))) (GN 1)) (SSeq (SAsg (TTup (ACons (TC (P.str "r0")) (ACons (TC (P.str "r1")) (ACons (TC (P.str "r2")) (ACons (TC (P.str "r3")) (ACons (TC (P.str "r4")) (ACons (TC (P.str "r5")) (ANil)))))))) (GN 2)) (SSeq (SAsg (TTup (ACons (TC (P.str "least")) (ACons (TTup (ACons (TC (P.str "a")) (ACons (TC (P.str "b")) (ACons (TC (P.str "c")) (ACons (TC (P.str "d")) (ANil)))))) (ACons (T2 mulY (TTup (ACons (TC (P.int 0)) (ACons (TC P.non) (ANil)))) (TC (P.int 3))) (ACons (T2 mulY (TTup (ACons (T2 mulY (TTup (ACons (TV 1) (ANil))) (TC (P.int 6))) (ANil))) (TC (P.int 4))) (ACons (TV 2) (ANil))))))) (GN 3)) (SSeq (SAsg (TCl W d__law_text [] (ACons (TV 3) (ANil))) (GN 4)) (SSeq (SIf (BOr (B2 neD (TCall (strX tsp___str__) (ACons (TCl W d__law_of [] (ACons (TV 3) (ANil))) (ANil))) (TV 4)) (B2 neD (TAtt "plain" tatt_plain (TSm tsm_read_1 1 0 W (TC (P.cl "Statistic")) (A2p (ACons (TV 4) (ANil))))) (TV 3))) (SRet (TC (P.bl false))) (SNext)) (SRet (TCall allD (ACons (TFz (NLc (IR1 (ACons (TCall maxD (ACons (TC (P.int 2)) (ACons (TCall minD (ACons (TC (P.int 6)) (ACons (TCall lenD (ACons (TV 0) (ANil))) (ANil)))) (ANil)))) (ANil))) (GN 5) (BYes) (TCl noW d__law_right [] (ACons (TCl noW d__law_pool [] (ACons (TCl noW d__law_cell [] (ACons (TV 0) (ACons (TV 5) (ANil)))) (ANil))) (ANil))) [5])) (ANil))))))))
def d_law : DSp := den 1 N_law T_law
structure Tx (K : PySem.W.Frag) (mg : Str → Option Value) : Prop where
  n_abs : mg "abs" = none
  n_all : mg "all" = none
  n_any : mg "any" = none
  n_bool : mg "bool" = none
  n_divmod : mg "divmod" = none
  n_enumerate : mg "enumerate" = none
  n_int : mg "int" = none
  n_isinstance : mg "isinstance" = none
  n_len : mg "len" = none
  n_max : mg "max" = none
  n_min : mg "min" = none
  n_range : mg "range" = none
  n_repr : mg "repr" = none
  n_str : mg "str" = none
  n_tuple : mg "tuple" = none
  n_zip : mg "zip" = none
  c_LETTERS : ∃ u, mg "LETTERS" = some u ∧ RelV (V.str "abcdefghijklmnopqrstuvwxyz") u
  c_MAX_AMOUNT : ∃ u, mg "MAX_AMOUNT" = some u ∧ RelV (V.int 1000000000000000000000000000000) u
  c_MAX_EVENTS : ∃ u, mg "MAX_EVENTS" = some u ∧ RelV (V.int 1000) u
  c_MAX_KINDS : ∃ u, mg "MAX_KINDS" = some u ∧ RelV (V.int 4) u
  c_MAX_REGISTERS : ∃ u, mg "MAX_REGISTERS" = some u ∧ RelV (V.int 6) u
  c_REGISTERS : mg "REGISTERS" = some (.ref (cA K "REGISTERS")) ∧ ∀ (G : Gm) (I : Hp), G.K = K → RP G I (D.P.tup [(D.P.str "r0"), (D.P.str "r1"), (D.P.str "r2"), (D.P.str "r3"), (D.P.str "r4"), (D.P.str "r5")]) (.ref (cA K "REGISTERS"))
  f__law_terms : ∃ f fd, Made K f fd "_law_terms" "_law_terms" st__law_terms [] ∧ mg "_law_terms" = some (.ref f)
  f__law_text : ∃ f fd, Made K f fd "_law_text" "_law_text" st__law_text [] ∧ mg "_law_text" = some (.ref f)
  f_first_fall : ∃ f fd, Made K f fd "first_fall" "first_fall" st_first_fall [] ∧ mg "first_fall" = some (.ref f)
  f_is_kind : ∃ f fd, Made K f fd "is_kind" "is_kind" st_is_kind [] ∧ mg "is_kind" = some (.ref f)
  f_check_kinds : ∃ f fd, Made K f fd "check_kinds" "check_kinds" st_check_kinds [] ∧ mg "check_kinds" = some (.ref f)
  f_is_integer : ∃ f fd, Made K f fd "is_integer" "is_integer" st_is_integer [] ∧ mg "is_integer" = some (.ref f)
  f_check_start : ∃ f fd, Made K f fd "check_start" "check_start" st_check_start [] ∧ mg "check_start" = some (.ref f)
  f_terms_of : ∃ f fd, Made K f fd "terms_of" "terms_of" st_terms_of [] ∧ mg "terms_of" = some (.ref f)
  f_is_rule : ∃ f fd, Made K f fd "is_rule" "is_rule" st_is_rule [] ∧ mg "is_rule" = some (.ref f)
  f_check_rules : ∃ f fd, Made K f fd "check_rules" "check_rules" st_check_rules [] ∧ mg "check_rules" = some (.ref f)
  f_check_result : ∃ f fd, Made K f fd "check_result" "check_result" st_check_result [] ∧ mg "check_result" = some (.ref f)
  f_Statistic___init__ : ∃ fd, Made K (aM K "Statistic" "__init__") fd "__init__" "Statistic.__init__" st_Statistic___init__ []
  f__law_of : ∃ f fd, Made K f fd "_law_of" "_law_of" st__law_of [] ∧ mg "_law_of" = some (.ref f)
  f_lines_of : ∃ f fd, Made K f fd "lines_of" "lines_of" st_lines_of [] ∧ mg "lines_of" = some (.ref f)
  f_Statistic_plain : ∃ fd, Made K (aW K "property" "Statistic" "plain") fd "plain" "Statistic.plain" st_Statistic_plain []
  f_Statistic___str__ : ∃ fd, Made K (aM K "Statistic" "__str__") fd "__str__" "Statistic.__str__" st_Statistic___str__ []
  f_line_at : ∃ f fd, Made K f fd "line_at" "line_at" st_line_at [] ∧ mg "line_at" = some (.ref f)
  f_read_words : ∃ f fd, Made K f fd "read_words" "read_words" st_read_words [] ∧ mg "read_words" = some (.ref f)
  f_read_kinds : ∃ f fd, Made K f fd "read_kinds" "read_kinds" st_read_kinds [] ∧ mg "read_kinds" = some (.ref f)
  f_read_start : ∃ f fd, Made K f fd "read_start" "read_start" st_read_start [] ∧ mg "read_start" = some (.ref f)
  f_read_terms : ∃ f fd, Made K f fd "read_terms" "read_terms" st_read_terms [] ∧ mg "read_terms" = some (.ref f)
  f_read_rule : ∃ f fd, Made K f fd "read_rule" "read_rule" st_read_rule [] ∧ mg "read_rule" = some (.ref f)
  f_made : ∃ f fd, Made K f fd "made" "made" st_made [] ∧ mg "made" = some (.ref f)
  f_read_lines : ∃ f fd, Made K f fd "read_lines" "read_lines" st_read_lines [] ∧ mg "read_lines" = some (.ref f)
  f_Statistic_read : ∃ fd, Made K (aW K "staticmethod" "Statistic" "read") fd "read" "Statistic.read" st_Statistic_read []
  f__law_draw : ∃ f fd, Made K f fd "_law_draw" "_law_draw" st__law_draw [] ∧ mg "_law_draw" = some (.ref f)
  f__law_some : ∃ f fd, Made K f fd "_law_some" "_law_some" st__law_some [] ∧ mg "_law_some" = some (.ref f)
  f__law_named : ∃ f fd, Made K f fd "_law_named" "_law_named" st__law_named [] ∧ mg "_law_named" = some (.ref f)
  f__law_plain : ∃ f fd, Made K f fd "_law_plain" "_law_plain" st__law_plain [] ∧ mg "_law_plain" = some (.ref f)
  f__law_great : ∃ f fd, Made K f fd "_law_great" "_law_great" st__law_great [] ∧ mg "_law_great" = some (.ref f)
  f__law_small : ∃ f fd, Made K f fd "_law_small" "_law_small" st__law_small [] ∧ mg "_law_small" = some (.ref f)
  f_Statistic___eq__ : ∃ fd, Made K (aM K "Statistic" "__eq__") fd "__eq__" "Statistic.__eq__" st_Statistic___eq__ []
  f__law_events : ∃ f fd, Made K f fd "_law_events" "_law_events" st__law_events [] ∧ mg "_law_events" = some (.ref f)
  f__law_source : ∃ f fd, Made K f fd "_law_source" "_law_source" st__law_source [] ∧ mg "_law_source" = some (.ref f)
  f__law_best : ∃ f fd, Made K f fd "_law_best" "_law_best" st__law_best [] ∧ mg "_law_best" = some (.ref f)
  f__law_step : ∃ f fd, Made K f fd "_law_step" "_law_step" st__law_step [] ∧ mg "_law_step" = some (.ref f)
  f__law_end : ∃ f fd, Made K f fd "_law_end" "_law_end" st__law_end [] ∧ mg "_law_end" = some (.ref f)
  f__law_result : ∃ f fd, Made K f fd "_law_result" "_law_result" st__law_result [] ∧ mg "_law_result" = some (.ref f)
  f_is_amount : ∃ f fd, Made K f fd "is_amount" "is_amount" st_is_amount [] ∧ mg "is_amount" = some (.ref f)
  f_is_event : ∃ f fd, Made K f fd "is_event" "is_event" st_is_event [] ∧ mg "is_event" = some (.ref f)
  f_first_wrong : ∃ f fd, Made K f fd "first_wrong" "first_wrong" st_first_wrong [V.non] ∧ mg "first_wrong" = some (.ref f)
  f_check_log : ∃ f fd, Made K f fd "check_log" "check_log" st_check_log [V.non] ∧ mg "check_log" = some (.ref f)
  f_source_of : ∃ f fd, Made K f fd "source_of" "source_of" st_source_of [] ∧ mg "source_of" = some (.ref f)
  f_best_of : ∃ f fd, Made K f fd "best_of" "best_of" st_best_of [] ∧ mg "best_of" = some (.ref f)
  f_stepped : ∃ f fd, Made K f fd "stepped" "stepped" st_stepped [] ∧ mg "stepped" = some (.ref f)
  f_Statistic___getitem__ : ∃ fd, Made K (aM K "Statistic" "__getitem__") fd "__getitem__" "Statistic.__getitem__" st_Statistic___getitem__ []
  f_read_out : ∃ f fd, Made K f fd "read_out" "read_out" st_read_out [] ∧ mg "read_out" = some (.ref f)
  f_Statistic___call__ : ∃ fd, Made K (aM K "Statistic" "__call__") fd "__call__" "Statistic.__call__" st_Statistic___call__ []
  f__law_right : ∃ f fd, Made K f fd "_law_right" "_law_right" st__law_right [] ∧ mg "_law_right" = some (.ref f)
  f__law_pool : ∃ f fd, Made K f fd "_law_pool" "_law_pool" st__law_pool [] ∧ mg "_law_pool" = some (.ref f)
  f__law_cell : ∃ f fd, Made K f fd "_law_cell" "_law_cell" st__law_cell [] ∧ mg "_law_cell" = some (.ref f)
  f_law : ∃ f fd, Made K f fd "law" "law" st_law [] ∧ mg "law" = some (.ref f)
  sp_Greatest___str__ : PySem.W.findIn K (.ref (cA K "Greatest")) "__str__" = some (some (.ref (aM K "Statistic" "__str__"))) ∧ PySem.W.isFn K (.ref (aM K "Statistic" "__str__")) = true ∧ PySem.W.fnIn K (aM K "Statistic" "__str__") = true
  sp_Least___str__ : PySem.W.findIn K (.ref (cA K "Least")) "__str__" = some (some (.ref (aM K "Statistic" "__str__"))) ∧ PySem.W.isFn K (.ref (aM K "Statistic" "__str__")) = true ∧ PySem.W.fnIn K (aM K "Statistic" "__str__") = true
  gc_Statistic : mg "Statistic" = some (.ref (cA K "Statistic"))
  sm_Statistic_read : ∃ mc p, ClX.CRead K (cA K "Statistic") mc ∧ SMet K (cA K "Statistic") mc "read" p (aW K "staticmethod" "Statistic" "read")
  sm_Greatest_read : ∃ mc p, ClX.CRead K (cA K "Greatest") mc ∧ SMet K (cA K "Greatest") mc "read" p (aW K "staticmethod" "Statistic" "read")
  sm_Least_read : ∃ mc p, ClX.CRead K (cA K "Least") mc ∧ SMet K (cA K "Least") mc "read" p (aW K "staticmethod" "Statistic" "read")
  cls_Greatest : Cls K (cA K "Greatest")
  prop_Greatest_plain : ∃ p, PropOf K (cA K "Greatest") "plain" p (aW K "property" "Statistic" "plain")
  cls_Least : Cls K (cA K "Least")
  prop_Least_plain : ∃ p, PropOf K (cA K "Least") "plain" p (aW K "property" "Statistic" "plain")
  gc_Greatest : mg "Greatest" = some (.ref (cA K "Greatest"))
  mk_Greatest : Mk K (cA K "Greatest") (aM K "Statistic" "__init__")
  mk_Least : Mk K (cA K "Least") (aM K "Statistic" "__init__")
  gc_Least : mg "Least" = some (.ref (cA K "Least"))
  noat_Greatest_kinds : NoAttr K (cA K "Greatest") "kinds"
  noat_Least_kinds : NoAttr K (cA K "Least") "kinds"
  noat_Greatest_start : NoAttr K (cA K "Greatest") "start"
  noat_Least_start : NoAttr K (cA K "Least") "start"
  noat_Greatest_rules : NoAttr K (cA K "Greatest") "rules"
  noat_Least_rules : NoAttr K (cA K "Least") "rules"
  noat_Greatest_ends : NoAttr K (cA K "Greatest") "ends"
  noat_Least_ends : NoAttr K (cA K "Least") "ends"
  con_Greatest_SIDE : ∃ u, Con K (cA K "Greatest") "SIDE" (V.str "greatest") u
  con_Least_SIDE : ∃ u, Con K (cA K "Least") "SIDE" (V.str "least") u
  sp_Greatest___eq__ : PySem.W.findIn K (.ref (cA K "Greatest")) "__eq__" = some (some (.ref (aM K "Statistic" "__eq__"))) ∧ PySem.W.isFn K (.ref (aM K "Statistic" "__eq__")) = true ∧ PySem.W.fnIn K (aM K "Statistic" "__eq__") = true
  sp_Least___eq__ : PySem.W.findIn K (.ref (cA K "Least")) "__eq__" = some (some (.ref (aM K "Statistic" "__eq__"))) ∧ PySem.W.isFn K (.ref (aM K "Statistic" "__eq__")) = true ∧ PySem.W.fnIn K (aM K "Statistic" "__eq__") = true
  callo_Greatest : StX.CallO K (cA K "Greatest") (aM K "Statistic" "__call__")
  callo_Least : StX.CallO K (cA K "Least") (aM K "Statistic" "__call__")
  sp_Greatest___getitem__ : PySem.W.findIn K (.ref (cA K "Greatest")) "__getitem__" = some (some (.ref (aM K "Statistic" "__getitem__"))) ∧ PySem.W.isFn K (.ref (aM K "Statistic" "__getitem__")) = true ∧ PySem.W.fnIn K (aM K "Statistic" "__getitem__") = true
  sp_Least___getitem__ : PySem.W.findIn K (.ref (cA K "Least")) "__getitem__" = some (some (.ref (aM K "Statistic" "__getitem__"))) ∧ PySem.W.isFn K (.ref (aM K "Statistic" "__getitem__")) = true ∧ PySem.W.fnIn K (aM K "Statistic" "__getitem__") = true
  isi : isiB K isCs isSub = true
  eqb : eqB K eqCs ["Greatest", "Least"] = true
section
variable {base : Heap} {P : Program} {w : World} {K : PySem.W.Frag} {mg : Str → Option Value} {g : Addr} {fd : FuncData}
theorem b__law_terms (M : Made K g fd "_law_terms" "_law_terms" st__law_terms []) : Binds K fd ["_law_count"] [] := M.bindsN fun _ _ _ _ _ _ us hl => match us, hl with | [_], _ => rfl
theorem b__law_text (M : Made K g fd "_law_text" "_law_text" st__law_text []) : Binds K fd ["_law_plain_here"] [] := M.bindsN fun _ _ _ _ _ _ us hl => match us, hl with | [_], _ => rfl
theorem b_first_fall (M : Made K g fd "first_fall" "first_fall" st_first_fall []) : Binds K fd ["value", "known"] [] := M.bindsN fun _ _ _ _ _ _ us hl => match us, hl with | [_, _], _ => rfl
theorem b_is_kind (M : Made K g fd "is_kind" "is_kind" st_is_kind []) : Binds K fd ["value"] [] := M.bindsN fun _ _ _ _ _ _ us hl => match us, hl with | [_], _ => rfl
theorem b_check_kinds (M : Made K g fd "check_kinds" "check_kinds" st_check_kinds []) : Binds K fd ["kinds"] [] := M.bindsN fun _ _ _ _ _ _ us hl => match us, hl with | [_], _ => rfl
theorem b_is_integer (M : Made K g fd "is_integer" "is_integer" st_is_integer []) : Binds K fd ["value"] [] := M.bindsN fun _ _ _ _ _ _ us hl => match us, hl with | [_], _ => rfl
theorem b_check_start (M : Made K g fd "check_start" "check_start" st_check_start []) : Binds K fd ["start"] [] := M.bindsN fun _ _ _ _ _ _ us hl => match us, hl with | [_], _ => rfl
theorem b_terms_of (M : Made K g fd "terms_of" "terms_of" st_terms_of []) : Binds K fd ["count"] [] := M.bindsN fun _ _ _ _ _ _ us hl => match us, hl with | [_], _ => rfl
theorem b_is_rule (M : Made K g fd "is_rule" "is_rule" st_is_rule []) : Binds K fd ["value", "count"] [] := M.bindsN fun _ _ _ _ _ _ us hl => match us, hl with | [_, _], _ => rfl
theorem b_check_rules (M : Made K g fd "check_rules" "check_rules" st_check_rules []) : Binds K fd ["rules", "kinds", "count"] [] := M.bindsN fun _ _ _ _ _ _ us hl => match us, hl with | [_, _, _], _ => rfl
theorem b_check_result (M : Made K g fd "check_result" "check_result" st_check_result []) : Binds K fd ["result", "count"] [] := M.bindsN fun _ _ _ _ _ _ us hl => match us, hl with | [_, _], _ => rfl
theorem b_Statistic___init__ (M : Made K g fd "__init__" "Statistic.__init__" st_Statistic___init__ []) : Binds K fd ["self", "kinds", "start", "rules", "result"] [] := M.bindsN fun _ _ _ _ _ _ us hl => match us, hl with | [_, _, _, _, _], _ => rfl
theorem kb_Statistic___init___0 (M : Made K g fd "__init__" "Statistic.__init__" st_Statistic___init__ []) : ∃ dV dU, KB K fd ["self", "kinds", "start", "rules", "result"] [] 5 [.p 0, .p 1, .p 2, .p 3, .p 4] dU ∧ DfR K [] dV dU := M.kb [] 5 [.p 0, .p 1, .p 2, .p 3, .p 4] fun _ _ _ _ _ _ us ws h1 h2 => match us, ws, h1, h2 with | [_, _, _, _, _], [], _, _ => rfl
theorem b__law_of (M : Made K g fd "_law_of" "_law_of" st__law_of []) : Binds K fd ["_law_plain_here"] [] := M.bindsN fun _ _ _ _ _ _ us hl => match us, hl with | [_], _ => rfl
theorem b_lines_of (M : Made K g fd "lines_of" "lines_of" st_lines_of []) : Binds K fd ["plain"] [] := M.bindsN fun _ _ _ _ _ _ us hl => match us, hl with | [_], _ => rfl
theorem b_Statistic_plain (M : Made K g fd "plain" "Statistic.plain" st_Statistic_plain []) : Binds K fd ["self"] [] := M.bindsN fun _ _ _ _ _ _ us hl => match us, hl with | [_], _ => rfl
theorem b_Statistic___str__ (M : Made K g fd "__str__" "Statistic.__str__" st_Statistic___str__ []) : Binds K fd ["self"] [] := M.bindsN fun _ _ _ _ _ _ us hl => match us, hl with | [_], _ => rfl
theorem b_line_at (M : Made K g fd "line_at" "line_at" st_line_at []) : Binds K fd ["lines", "number"] [] := M.bindsN fun _ _ _ _ _ _ us hl => match us, hl with | [_, _], _ => rfl
theorem b_read_words (M : Made K g fd "read_words" "read_words" st_read_words []) : Binds K fd ["line", "first"] [] := M.bindsN fun _ _ _ _ _ _ us hl => match us, hl with | [_, _], _ => rfl
theorem b_read_kinds (M : Made K g fd "read_kinds" "read_kinds" st_read_kinds []) : Binds K fd ["line"] [] := M.bindsN fun _ _ _ _ _ _ us hl => match us, hl with | [_], _ => rfl
theorem b_read_start (M : Made K g fd "read_start" "read_start" st_read_start []) : Binds K fd ["line"] [] := M.bindsN fun _ _ _ _ _ _ us hl => match us, hl with | [_], _ => rfl
theorem b_read_terms (M : Made K g fd "read_terms" "read_terms" st_read_terms []) : Binds K fd ["part", "slot", "count"] [] := M.bindsN fun _ _ _ _ _ _ us hl => match us, hl with | [_, _, _], _ => rfl
theorem b_read_rule (M : Made K g fd "read_rule" "read_rule" st_read_rule []) : Binds K fd ["line", "kind", "count"] [] := M.bindsN fun _ _ _ _ _ _ us hl => match us, hl with | [_, _, _], _ => rfl
theorem b_made (M : Made K g fd "made" "made" st_made []) : Binds K fd ["side", "kinds", "start", "rules", "result"] [] := M.bindsN fun _ _ _ _ _ _ us hl => match us, hl with | [_, _, _, _, _], _ => rfl
theorem b_read_lines (M : Made K g fd "read_lines" "read_lines" st_read_lines []) : Binds K fd ["lines"] [] := M.bindsN fun _ _ _ _ _ _ us hl => match us, hl with | [_], _ => rfl
theorem b_Statistic_read (M : Made K g fd "read" "Statistic.read" st_Statistic_read []) : Binds K fd ["text"] [] := M.bindsN fun _ _ _ _ _ _ us hl => match us, hl with | [_], _ => rfl
theorem kb_Statistic_read_0 (M : Made K g fd "read" "Statistic.read" st_Statistic_read []) : ∃ dV dU, KB K fd ["text"] [] 1 [.p 0] dU ∧ DfR K [] dV dU := M.kb [] 1 [.p 0] fun _ _ _ _ _ _ us ws h1 h2 => match us, ws, h1, h2 with | [_], [], _, _ => rfl
theorem kb_Statistic_read_1 (M : Made K g fd "read" "Statistic.read" st_Statistic_read []) : ∃ dV dU, KB K fd ["text"] ["text"] 0 [.k 0] dU ∧ DfR K [] dV dU := M.kb ["text"] 0 [.k 0] fun _ _ _ _ _ _ us ws h1 h2 => match us, ws, h1, h2 with | [], [_], _, _ => rfl
theorem b__law_draw (M : Made K g fd "_law_draw" "_law_draw" st__law_draw []) : Binds K fd ["_law_pool_here", "_law_many"] [] := M.bindsN fun _ _ _ _ _ _ us hl => match us, hl with | [_, _], _ => rfl
theorem b__law_some (M : Made K g fd "_law_some" "_law_some" st__law_some []) : Binds K fd ["_law_pool_here", "_law_count", "_law_k"] [] := M.bindsN fun _ _ _ _ _ _ us hl => match us, hl with | [_, _, _], _ => rfl
theorem b__law_named (M : Made K g fd "_law_named" "_law_named" st__law_named []) : Binds K fd ["_law_pool_here", "_law_many"] [] := M.bindsN fun _ _ _ _ _ _ us hl => match us, hl with | [_, _], _ => rfl
theorem b__law_plain (M : Made K g fd "_law_plain" "_law_plain" st__law_plain []) : Binds K fd ["_law_pool_here", "_law_many", "_law_count"] [] := M.bindsN fun _ _ _ _ _ _ us hl => match us, hl with | [_, _, _], _ => rfl
theorem b__law_great (M : Made K g fd "_law_great" "_law_great" st__law_great []) : Binds K fd ["_law_pool_here"] [] := M.bindsN fun _ _ _ _ _ _ us hl => match us, hl with | [_], _ => rfl
theorem b__law_small (M : Made K g fd "_law_small" "_law_small" st__law_small []) : Binds K fd ["_law_pool_here"] [] := M.bindsN fun _ _ _ _ _ _ us hl => match us, hl with | [_], _ => rfl
theorem b_Statistic___eq__ (M : Made K g fd "__eq__" "Statistic.__eq__" st_Statistic___eq__ []) : Binds K fd ["self", "other"] [] := M.bindsN fun _ _ _ _ _ _ us hl => match us, hl with | [_, _], _ => rfl
theorem b__law_events (M : Made K g fd "_law_events" "_law_events" st__law_events []) : Binds K fd ["_law_pool_here", "_law_plain_here", "_law_size", "_law_wide"] [] := M.bindsN fun _ _ _ _ _ _ us hl => match us, hl with | [_, _, _, _], _ => rfl
theorem b__law_source (M : Made K g fd "_law_source" "_law_source" st__law_source []) : Binds K fd ["_law_term"] [] := M.bindsN fun _ _ _ _ _ _ us hl => match us, hl with | [_], _ => rfl
theorem b__law_best (M : Made K g fd "_law_best" "_law_best" st__law_best []) : Binds K fd ["_law_side", "_law_some_here"] [] := M.bindsN fun _ _ _ _ _ _ us hl => match us, hl with | [_, _], _ => rfl
theorem b__law_step (M : Made K g fd "_law_step" "_law_step" st__law_step []) : Binds K fd ["_law_plain_here", "_law_held", "_law_event"] [] := M.bindsN fun _ _ _ _ _ _ us hl => match us, hl with | [_, _, _], _ => rfl
theorem b__law_end (M : Made K g fd "_law_end" "_law_end" st__law_end []) : Binds K fd ["_law_plain_here", "_law_held"] [] := M.bindsN fun _ _ _ _ _ _ us hl => match us, hl with | [_, _], _ => rfl
theorem b__law_result (M : Made K g fd "_law_result" "_law_result" st__law_result []) : Binds K fd ["_law_plain_here", "_law_events_here"] [] := M.bindsN fun _ _ _ _ _ _ us hl => match us, hl with | [_, _], _ => rfl
theorem b_is_amount (M : Made K g fd "is_amount" "is_amount" st_is_amount []) : Binds K fd ["value"] [] := M.bindsN fun _ _ _ _ _ _ us hl => match us, hl with | [_], _ => rfl
theorem b_is_event (M : Made K g fd "is_event" "is_event" st_is_event []) : Binds K fd ["value"] [] := M.bindsN fun _ _ _ _ _ _ us hl => match us, hl with | [_], _ => rfl
theorem b_first_wrong_1 (M : Made K g fd "first_wrong" "first_wrong" st_first_wrong [V.non]) : ∃ ds, Vals ([V.non] : List V) ds ∧ Binds K fd ["value", "kinds"] ds := M.binds1 1 0 (by decide) (by decide) fun _ _ _ _ _ _ _ us its h1 h2 => match us, its, h1, h2 with | [_], [_], _, _ => ⟨_, rfl, rfl⟩
theorem b_first_wrong_2 (M : Made K g fd "first_wrong" "first_wrong" st_first_wrong [V.non]) : ∃ ds, Vals ([] : List V) ds ∧ Binds K fd ["value", "kinds"] ds := M.binds1 2 1 (by decide) (by decide) fun _ _ _ _ _ _ _ us its h1 h2 => match us, its, h1, h2 with | [_, _], [_], _, _ => ⟨_, rfl, rfl⟩
theorem b_check_log_1 (M : Made K g fd "check_log" "check_log" st_check_log [V.non]) : ∃ ds, Vals ([V.non] : List V) ds ∧ Binds K fd ["log", "kinds"] ds := M.binds1 1 0 (by decide) (by decide) fun _ _ _ _ _ _ _ us its h1 h2 => match us, its, h1, h2 with | [_], [_], _, _ => ⟨_, rfl, rfl⟩
theorem b_check_log_2 (M : Made K g fd "check_log" "check_log" st_check_log [V.non]) : ∃ ds, Vals ([] : List V) ds ∧ Binds K fd ["log", "kinds"] ds := M.binds1 2 1 (by decide) (by decide) fun _ _ _ _ _ _ _ us its h1 h2 => match us, its, h1, h2 with | [_, _], [_], _, _ => ⟨_, rfl, rfl⟩
theorem b_source_of (M : Made K g fd "source_of" "source_of" st_source_of []) : Binds K fd ["term"] [] := M.bindsN fun _ _ _ _ _ _ us hl => match us, hl with | [_], _ => rfl
theorem b_best_of (M : Made K g fd "best_of" "best_of" st_best_of []) : Binds K fd ["side", "values"] [] := M.bindsN fun _ _ _ _ _ _ us hl => match us, hl with | [_, _], _ => rfl
theorem b_stepped (M : Made K g fd "stepped" "stepped" st_stepped []) : Binds K fd ["side", "rule", "row", "amount"] [] := M.bindsN fun _ _ _ _ _ _ us hl => match us, hl with | [_, _, _, _], _ => rfl
theorem b_Statistic___getitem__ (M : Made K g fd "__getitem__" "Statistic.__getitem__" st_Statistic___getitem__ []) : Binds K fd ["self", "kind"] [] := M.bindsN fun _ _ _ _ _ _ us hl => match us, hl with | [_, _], _ => rfl
theorem b_read_out (M : Made K g fd "read_out" "read_out" st_read_out []) : Binds K fd ["side", "result", "held"] [] := M.bindsN fun _ _ _ _ _ _ us hl => match us, hl with | [_, _, _], _ => rfl
theorem b_Statistic___call__ (M : Made K g fd "__call__" "Statistic.__call__" st_Statistic___call__ []) : Binds K fd ["self", "log"] [] := M.bindsN fun _ _ _ _ _ _ us hl => match us, hl with | [_, _], _ => rfl
theorem kb_Statistic___call___0 (M : Made K g fd "__call__" "Statistic.__call__" st_Statistic___call__ []) : ∃ dV dU, KB K fd ["self", "log"] [] 2 [.p 0, .p 1] dU ∧ DfR K [] dV dU := M.kb [] 2 [.p 0, .p 1] fun _ _ _ _ _ _ us ws h1 h2 => match us, ws, h1, h2 with | [_, _], [], _, _ => rfl
theorem b__law_right (M : Made K g fd "_law_right" "_law_right" st__law_right []) : Binds K fd ["_law_pool_here"] [] := M.bindsN fun _ _ _ _ _ _ us hl => match us, hl with | [_], _ => rfl
theorem b__law_pool (M : Made K g fd "_law_pool" "_law_pool" st__law_pool []) : Binds K fd ["_law_cell_here"] [] := M.bindsN fun _ _ _ _ _ _ us hl => match us, hl with | [_], _ => rfl
theorem b__law_cell (M : Made K g fd "_law_cell" "_law_cell" st__law_cell []) : Binds K fd ["_law_cells", "_law_k"] [] := M.bindsN fun _ _ _ _ _ _ us hl => match us, hl with | [_, _], _ => rfl
theorem b_law (M : Made K g fd "law" "law" st_law []) : Binds K fd ["_law_cells"] [] := M.bindsN fun _ _ _ _ _ _ us hl => match us, hl with | [_], _ => rfl
theorem al_tatt_ends (T : Tx K mg) : AllT (fun q => AttOk P w K mg base 0 "ends" q.1 q.2) tatt_ends := by
  have k0 : 0 ≤ 0 := by decide
  exact ⟨⟨T.cls_Greatest, T.noat_Greatest_ends⟩, ⟨⟨T.cls_Least, T.noat_Least_ends⟩, trivial⟩⟩
theorem al_tatt_rules (T : Tx K mg) : AllT (fun q => AttOk P w K mg base 0 "rules" q.1 q.2) tatt_rules := by
  have k0 : 0 ≤ 0 := by decide
  exact ⟨⟨T.cls_Greatest, T.noat_Greatest_rules⟩, ⟨⟨T.cls_Least, T.noat_Least_rules⟩, trivial⟩⟩
theorem al_tatt_start (T : Tx K mg) : AllT (fun q => AttOk P w K mg base 0 "start" q.1 q.2) tatt_start := by
  have k0 : 0 ≤ 0 := by decide
  exact ⟨⟨T.cls_Greatest, T.noat_Greatest_start⟩, ⟨⟨T.cls_Least, T.noat_Least_start⟩, trivial⟩⟩
theorem al_tatt_kinds (T : Tx K mg) : AllT (fun q => AttOk P w K mg base 0 "kinds" q.1 q.2) tatt_kinds := by
  have k0 : 0 ≤ 0 := by decide
  exact ⟨⟨T.cls_Greatest, T.noat_Greatest_kinds⟩, ⟨⟨T.cls_Least, T.noat_Least_kinds⟩, trivial⟩⟩
theorem al_tatt_SIDE (T : Tx K mg) : AllT (fun q => AttOk P w K mg base 0 "SIDE" q.1 q.2) tatt_SIDE := by
  have k0 : 0 ≤ 0 := by decide
  exact ⟨⟨T.cls_Greatest, by obtain ⟨u, h⟩ := T.con_Greatest_SIDE; exact ⟨_, u, h, fun _ _ _ => ⟨rfl, by decide +kernel, by decide +kernel⟩⟩⟩, ⟨⟨T.cls_Least, by obtain ⟨u, h⟩ := T.con_Least_SIDE; exact ⟨_, u, h, fun _ _ _ => ⟨rfl, by decide +kernel, by decide +kernel⟩⟩⟩, trivial⟩⟩
theorem c__law_terms (T : Tx K mg) : ∃ f fd, Cal P w K mg base 1 "_law_terms" ["_law_count"] st__law_terms [] d__law_terms f fd := by
  obtain ⟨f, fd, M, hm⟩ := T.f__law_terms
  refine ⟨f, fd, hm, M, fd_den (k := 0) M sc__law_terms fun cdv A outer s H E F I0 W g hr tk ow => ?_⟩
  exact s_cons (s_asg (d_lst (a_cons (d_str) (a_nil))) (g_n (i := 1) rfl sc__law_terms.nd rfl (by first | exact Or.inl rfl | exact Or.inr rfl))) (s_cons (s_for ow rfl (i_r1 rfl T.n_range (a_cons (dv 0) (a_nil))) (g_n (i := 2) rfl sc__law_terms.nd rfl (by first | exact Or.inl rfl | exact Or.inr rfl)) (s_one (s_asg (d_op o_add (dv 1) (d_lst (a_cons (d_op o_add (d_str) (d_callTy n_str rfl T.n_str (by decide +kernel) (a_cons (dv 2) (a_nil)))) (a_cons (d_op o_add (d_op o_add (d_str) (d_callTy n_str rfl T.n_str (by decide +kernel) (a_cons (dv 2) (a_nil)))) (d_str)) (a_nil))))) (g_n (i := 1) rfl sc__law_terms.nd rfl (by first | exact Or.inl rfl | exact Or.inr rfl))))) (s_one (s_ret (d_op o_add (dv 1) (d_lst (a_cons (d_str) (a_nil)))))))
theorem c__law_text (T : Tx K mg) : ∃ f fd, Cal P w K mg base 1 "_law_text" ["_law_plain_here"] st__law_text [] d__law_text f fd := by
  obtain ⟨f, fd, M, hm⟩ := T.f__law_text
  refine ⟨f, fd, hm, M, fd_den (k := 0) M sc__law_text fun cdv A outer s H E F I0 W g hr tk ow => ?_⟩
  exact s_cons (s_asg (dv 0) (g_t rfl (gs_cons (g_n (i := 1) rfl sc__law_text.nd rfl (by first | exact Or.inl rfl | exact Or.inr rfl)) (gs_cons (g_n (i := 2) rfl sc__law_text.nd rfl (by first | exact Or.inl rfl | exact Or.inr rfl)) (gs_cons (g_n (i := 3) rfl sc__law_text.nd rfl (by first | exact Or.inl rfl | exact Or.inr rfl)) (gs_cons (g_n (i := 4) rfl sc__law_text.nd rfl (by first | exact Or.inl rfl | exact Or.inr rfl)) (gs_cons (g_n (i := 5) rfl sc__law_text.nd rfl (by first | exact Or.inl rfl | exact Or.inr rfl)) (gs_nil)))))))) (s_cons (s_own (i := 6) sc__law_text.nd rfl (by first | exact Or.inl rfl | exact Or.inr rfl) (n_disp (a_cons (dv 1) (a_cons (d_op o_add (d_str) (d_join (d_str) (a_cons (dv 2) (a_nil)))) (a_cons (d_str) (a_nil)))))) (s_cons (s_for ow rfl (i_seq (dv 3)) (g_n (i := 7) rfl sc__law_text.nd rfl (by first | exact Or.inl rfl | exact Or.inr rfl)) (s_one (s_asg (d_op o_add (d_ix (dv 6) (d_int)) (d_if (b_cmp o_is (dv 7) (d_non) (by first | exact nomark _ | rfl)) (d_str) (d_str))) (g_s (dv 6) (d_int))))) (s_cons (s_for ow rfl (i_r1 rfl T.n_range (a_cons (d_callB n_len rfl T.n_len (by decide +kernel) (a_cons (dv 2) (a_nil))) (a_nil))) (g_n (i := 8) rfl sc__law_text.nd rfl (by first | exact Or.inl rfl | exact Or.inr rfl)) (s_cons (s_own (i := 9) sc__law_text.nd rfl (by first | exact Or.inl rfl | exact Or.inr rfl) (n_disp (a_nil))) (s_cons (s_for ow rfl (i_r1 rfl T.n_range (a_cons (d_callB n_len rfl T.n_len (by decide +kernel) (a_cons (dv 3) (a_nil))) (a_nil))) (g_n (i := 10) rfl sc__law_text.nd rfl (by first | exact Or.inl rfl | exact Or.inr rfl)) (s_cons (s_asg (d_if (b_cmp (o_ne hr.units) (d_ix (d_ix (dv 4) (dv 8)) (dv 10)) (d_tup (a_nil)) (by first | exact nomark _ | rfl)) (d_join (d_str) (a_cons (d_ix (d_ix (dv 4) (dv 8)) (dv 10)) (a_nil))) (d_str)) (g_n (i := 11) rfl sc__law_text.nd rfl (by first | exact Or.inl rfl | exact Or.inr rfl))) (s_one (s_expr (d_append (dv 9) (a_cons (d_op o_add (d_op o_add (d_op o_add (d_str) (d_callTy n_str rfl T.n_str (by decide +kernel) (a_cons (dv 10) (a_nil)))) (d_str)) (dv 11)) (a_nil))))))) (s_one (s_expr (d_append (dv 6) (a_cons (d_op o_add (d_op o_add (d_op o_add (d_str) (d_ix (dv 2) (dv 8))) (d_str)) (d_join (d_str) (a_cons (dv 9) (a_nil)))) (a_nil)))))))) (s_one (s_ret (d_join (d_str) (a_cons (d_op o_add (dv 6) (d_lst (a_cons (d_op o_add (d_str) (d_join (d_str) (a_cons (dv 5) (a_nil)))) (a_nil)))) (a_nil))))))))
theorem c_first_fall (T : Tx K mg) : ∃ f fd, Cal P w K mg base 1 "first_fall" ["value", "known"] st_first_fall [] d_first_fall f fd := by
  obtain ⟨f, fd, M, hm⟩ := T.f_first_fall
  refine ⟨f, fd, hm, M, fd_den (k := 0) M sc_first_fall fun cdv A outer s H E F I0 W g hr tk ow => ?_⟩
  exact s_cons (s_for ow rfl (i_en rfl T.n_enumerate (a_cons (dv 0) (a_nil))) (g_t rfl (gs_cons (g_n (i := 2) rfl sc_first_fall.nd rfl (by first | exact Or.inl rfl | exact Or.inr rfl)) (gs_cons (g_n (i := 3) rfl sc_first_fall.nd rfl (by first | exact Or.inl rfl | exact Or.inr rfl)) (gs_nil)))) (s_one (s_if (w_pt (w_or (b_not (b_tru (d_callB n_isi rfl T.n_isinstance (by decide +kernel) (a_cons (dv 3) (a_cons (d_ty rfl T.n_str (by decide +kernel)) (a_nil)))) (fun _ => rfl))) (w_or (b_cmp (o_nin hr.units) (dv 3) (dv 1) (by first | exact nomark _ | rfl)) (w_or1 (w_pt (w_and (b_cmp o_gt (dv 2) (d_int) (by first | exact nomark _ | rfl)) (w_and1 (b_cmp o_le (dv 3) (d_ix (dv 0) (d_op o_sub (dv 2) (d_int))) (by first | exact nomark _ | rfl))))))))) (s_one (s_ret (dv 2))) (s_next)))) (s_one (s_ret (d_non)))
theorem c_is_kind (T : Tx K mg) : ∃ f fd, Cal P w K mg base 1 "is_kind" ["value"] st_is_kind [] d_is_kind f fd := by
  obtain ⟨f, fd, M, hm⟩ := T.f_is_kind
  refine ⟨f, fd, hm, M, fd_den (k := 0) M sc_is_kind fun cdv A outer s H E F I0 W g hr tk ow => ?_⟩
  exact s_one (s_ret (d_and (d_callB n_isi rfl T.n_isinstance (by decide +kernel) (a_cons (dv 0) (a_cons (d_ty rfl T.n_str (by decide +kernel)) (a_nil)))) (d_and (d_ch o_le o_le (d_int) (d_callB n_len rfl T.n_len (by decide +kernel) (a_cons (dv 0) (a_nil))) (d_int)) (d_one (d_callB (n_all rfl) rfl T.n_all (by decide +kernel) (a_cons (d_frN (n_lc (ow := [("letter", 1)]) rfl sc_is_kind.nd (i_seq (dv 0)) (blkOk_by (N := N_is_kind) (sc := defScope st_is_kind) (by decide +kernel)) (fun _ _ _ _ _ _ => g_n (i := 1) rfl sc_is_kind.nd rfl (by first | exact Or.inl rfl | exact Or.inr rfl)) (fun _ _ _ _ _ _ => tt_yes) (fun _ _ _ _ _ _ => d_cmp (o_in hr.units) (dv 1) (dgs T.c_LETTERS) (by first | exact nomark _ | rfl)))) (a_nil)))))))
theorem c_check_kinds (T : Tx K mg) : ∃ f fd, Cal P w K mg base 2 "check_kinds" ["kinds"] st_check_kinds [] d_check_kinds f fd := by
  obtain ⟨f, fd, M, hm⟩ := T.f_check_kinds
  obtain ⟨f0, fd0, C0⟩ := c_first_fall (P := P) (w := w) (base := base) T
  obtain ⟨f1, fd1, C1⟩ := c_is_kind (P := P) (w := w) (base := base) T
  refine ⟨f, fd, hm, M, fd_den (k := 1) M sc_check_kinds fun cdv A outer s H E F I0 W g hr tk ow => ?_⟩
  exact s_cons (s_if (w_pt (w_or (b_not (b_tru (d_callB n_isi rfl T.n_isinstance (by decide +kernel) (a_cons (dv 0) (a_cons (d_ty rfl T.n_tuple (by decide +kernel)) (a_nil)))) (fun _ => rfl))) (w_or1 (b_not (b_ch o_le o_le (d_int) (d_callB n_len rfl T.n_len (by decide +kernel) (a_cons (dv 0) (a_nil))) (dg T.c_MAX_KINDS)))))) (s_one (s_never)) (s_next)) (s_cons (s_asg (d_call C0.fn g (hr.mono (by decide)) tk rfl C0.hm C0.made.kp (b_first_fall C0.made) .nil (a_cons (dv 0) (a_cons (d_frN (n_lc (ow := [("kind", 2)]) rfl sc_check_kinds.nd (i_seq (dv 0)) (blkOk_by (N := N_check_kinds) (sc := defScope st_check_kinds) (by decide +kernel)) (fun _ _ _ _ _ _ => g_n (i := 2) rfl sc_check_kinds.nd rfl (by first | exact Or.inl rfl | exact Or.inr rfl)) (fun _ _ _ _ _ _ => tt_one (b_tru (d_call C1.fn g (hr.mono (by decide)) tkN rfl C1.hm C1.made.kp (b_is_kind C1.made) .nil (a_cons (dv 2) (a_nil))) (fun _ => rfl))) (fun _ _ _ _ _ _ => dv 2))) (a_nil)))) (g_n (i := 1) rfl sc_check_kinds.nd rfl (by first | exact Or.inl rfl | exact Or.inr rfl))) (s_one (s_if (b_cmp o_nis (dv 1) (d_non) (by first | exact nomark _ | rfl)) (s_one (s_never)) (s_next))))
theorem c_is_integer (T : Tx K mg) : ∃ f fd, Cal P w K mg base 1 "is_integer" ["value"] st_is_integer [] d_is_integer f fd := by
  obtain ⟨f, fd, M, hm⟩ := T.f_is_integer
  refine ⟨f, fd, hm, M, fd_den (k := 0) M sc_is_integer fun cdv A outer s H E F I0 W g hr tk ow => ?_⟩
  exact s_one (s_ret (d_and (d_callB n_isi rfl T.n_isinstance (by decide +kernel) (a_cons (dv 0) (a_cons (d_ty rfl T.n_int (by decide +kernel)) (a_nil)))) (d_one (d_not (d_callB n_isi rfl T.n_isinstance (by decide +kernel) (a_cons (dv 0) (a_cons (d_ty rfl T.n_bool (by decide +kernel)) (a_nil))))))))
theorem c_check_start (T : Tx K mg) : ∃ f fd, Cal P w K mg base 2 "check_start" ["start"] st_check_start [] d_check_start f fd := by
  obtain ⟨f, fd, M, hm⟩ := T.f_check_start
  obtain ⟨f0, fd0, C0⟩ := c_is_integer (P := P) (w := w) (base := base) T
  refine ⟨f, fd, hm, M, fd_den (k := 1) M sc_check_start fun cdv A outer s H E F I0 W g hr tk ow => ?_⟩
  exact s_cons (s_if (w_pt (w_or (b_not (b_tru (d_callB n_isi rfl T.n_isinstance (by decide +kernel) (a_cons (dv 0) (a_cons (d_ty rfl T.n_tuple (by decide +kernel)) (a_nil)))) (fun _ => rfl))) (w_or1 (b_not (b_ch o_le o_le (d_int) (d_callB n_len rfl T.n_len (by decide +kernel) (a_cons (dv 0) (a_nil))) (dg T.c_MAX_REGISTERS)))))) (s_one (s_never)) (s_next)) (s_one (s_for ow rfl (i_en rfl T.n_enumerate (a_cons (dv 0) (a_nil))) (g_t rfl (gs_cons (g_n (i := 1) rfl sc_check_start.nd rfl (by first | exact Or.inl rfl | exact Or.inr rfl)) (gs_cons (g_n (i := 2) rfl sc_check_start.nd rfl (by first | exact Or.inl rfl | exact Or.inr rfl)) (gs_nil)))) (s_one (s_if (w_pt (w_and (b_cmp o_nis (dv 2) (d_non) (by first | exact nomark _ | rfl)) (w_and1 (w_pt (w_or (b_not (b_tru (d_call C0.fn g (hr.mono (by decide)) tk rfl C0.hm C0.made.kp (b_is_integer C0.made) .nil (a_cons (dv 2) (a_nil))) (fun _ => rfl))) (w_or1 (b_cmp (o_ne hr.units) (dv 2) (d_int) (by first | exact nomark _ | rfl)))))))) (s_one (s_never)) (s_next)))))
theorem c_terms_of (T : Tx K mg) : ∃ f fd, Cal P w K mg base 1 "terms_of" ["count"] st_terms_of [] d_terms_of f fd := by
  obtain ⟨f, fd, M, hm⟩ := T.f_terms_of
  refine ⟨f, fd, hm, M, fd_den (k := 0) M sc_terms_of fun cdv A outer s H E F I0 W g hr tk ow => ?_⟩
  exact s_cons (s_own (i := 1) sc_terms_of.nd rfl (by first | exact Or.inl rfl | exact Or.inr rfl) (n_disp (a_cons (d_str) (a_nil)))) (s_cons (s_for ow rfl (i_seq (d_sl (dgt T.c_REGISTERS) (o_none) (o_some (dv 0)))) (g_n (i := 2) rfl sc_terms_of.nd rfl (by first | exact Or.inl rfl | exact Or.inr rfl)) (s_one (s_expr (d_extend (dv 1) (a_cons (d_lst (a_cons (dv 2) (a_cons (d_op o_add (dv 2) (d_str)) (a_nil)))) (a_nil)))))) (s_one (s_ret (d_lst (a_star (dv 1) (a_cons (d_str) (a_nil)))))))
theorem c_is_rule (T : Tx K mg) : ∃ f fd, Cal P w K mg base 2 "is_rule" ["value", "count"] st_is_rule [] d_is_rule f fd := by
  obtain ⟨f, fd, M, hm⟩ := T.f_is_rule
  obtain ⟨f0, fd0, C0⟩ := c_terms_of (P := P) (w := w) (base := base) T
  obtain ⟨f1, fd1, C1⟩ := c_first_fall (P := P) (w := w) (base := base) T
  refine ⟨f, fd, hm, M, fd_den (k := 1) M sc_is_rule fun cdv A outer s H E F I0 W g hr tk ow => ?_⟩
  exact s_cons (s_if (w_pt (w_or (b_not (b_tru (d_callB n_isi rfl T.n_isinstance (by decide +kernel) (a_cons (dv 0) (a_cons (d_ty rfl T.n_tuple (by decide +kernel)) (a_nil)))) (fun _ => rfl))) (w_or1 (b_cmp (o_ne hr.units) (d_callB n_len rfl T.n_len (by decide +kernel) (a_cons (dv 0) (a_nil))) (dv 1) (by first | exact nomark _ | rfl))))) (s_one (s_ret (d_bl))) (s_next)) (s_cons (s_asg (d_call C0.fn g (hr.mono (by decide)) tk rfl C0.hm C0.made.kp (b_terms_of C0.made) .nil (a_cons (dv 1) (a_nil))) (g_n (i := 2) rfl sc_is_rule.nd rfl (by first | exact Or.inl rfl | exact Or.inr rfl))) (s_one (s_ret (d_callB (n_all rfl) rfl T.n_all (by decide +kernel) (a_cons (d_frN (n_lc (ow := [("terms", 3)]) rfl sc_is_rule.nd (i_seq (dv 0)) (blkOk_by (N := N_is_rule) (sc := defScope st_is_rule) (by decide +kernel)) (fun _ _ _ _ _ _ => g_n (i := 3) rfl sc_is_rule.nd rfl (by first | exact Or.inl rfl | exact Or.inr rfl)) (fun _ _ _ _ _ _ => tt_yes) (fun _ _ _ _ _ _ => d_and (d_callB n_isi rfl T.n_isinstance (by decide +kernel) (a_cons (dv 3) (a_cons (d_ty rfl T.n_tuple (by decide +kernel)) (a_nil)))) (d_one (d_cmp o_is (d_call C1.fn g (hr.mono (by decide)) tkN rfl C1.hm C1.made.kp (b_first_fall C1.made) .nil (a_cons (dv 3) (a_cons (dv 2) (a_nil)))) (d_non) (by first | exact nomark _ | rfl)))))) (a_nil))))))
theorem c_check_rules (T : Tx K mg) : ∃ f fd, Cal P w K mg base 3 "check_rules" ["rules", "kinds", "count"] st_check_rules [] d_check_rules f fd := by
  obtain ⟨f, fd, M, hm⟩ := T.f_check_rules
  obtain ⟨f0, fd0, C0⟩ := c_is_rule (P := P) (w := w) (base := base) T
  refine ⟨f, fd, hm, M, fd_den (k := 2) M sc_check_rules fun cdv A outer s H E F I0 W g hr tk ow => ?_⟩
  exact s_cons (s_if (w_pt (w_or (b_not (b_tru (d_callB n_isi rfl T.n_isinstance (by decide +kernel) (a_cons (dv 0) (a_cons (d_ty rfl T.n_tuple (by decide +kernel)) (a_nil)))) (fun _ => rfl))) (w_or1 (b_cmp (o_ne hr.units) (d_callB n_len rfl T.n_len (by decide +kernel) (a_cons (dv 0) (a_nil))) (d_callB n_len rfl T.n_len (by decide +kernel) (a_cons (dv 1) (a_nil))) (by first | exact nomark _ | rfl))))) (s_one (s_never)) (s_next)) (s_one (s_for ow rfl (i_en rfl T.n_enumerate (a_cons (dv 0) (a_nil))) (g_t rfl (gs_cons (g_n (i := 3) rfl sc_check_rules.nd rfl (by first | exact Or.inl rfl | exact Or.inr rfl)) (gs_cons (g_n (i := 4) rfl sc_check_rules.nd rfl (by first | exact Or.inl rfl | exact Or.inr rfl)) (gs_nil)))) (s_one (s_if (b_not (b_tru (d_call C0.fn g (hr.mono (by decide)) tk rfl C0.hm C0.made.kp (b_is_rule C0.made) .nil (a_cons (dv 4) (a_cons (dv 2) (a_nil)))) (fun _ => rfl))) (s_one (s_never)) (s_next)))))
theorem c_check_result (T : Tx K mg) : ∃ f fd, Cal P w K mg base 2 "check_result" ["result", "count"] st_check_result [] d_check_result f fd := by
  obtain ⟨f, fd, M, hm⟩ := T.f_check_result
  obtain ⟨f0, fd0, C0⟩ := c_first_fall (P := P) (w := w) (base := base) T
  refine ⟨f, fd, hm, M, fd_den (k := 1) M sc_check_result fun cdv A outer s H E F I0 W g hr tk ow => ?_⟩
  exact s_cons (s_if (w_pt (w_or (b_not (b_tru (d_callB n_isi rfl T.n_isinstance (by decide +kernel) (a_cons (dv 0) (a_cons (d_ty rfl T.n_tuple (by decide +kernel)) (a_nil)))) (fun _ => rfl))) (w_or1 (b_cmp (o_eq hr.units) (dv 0) (d_tup (a_nil)) (by first | exact nomark _ | rfl))))) (s_one (s_never)) (s_next)) (s_cons (s_asg (d_call C0.fn g (hr.mono (by decide)) tk rfl C0.hm C0.made.kp (b_first_fall C0.made) .nil (a_cons (dv 0) (a_cons (d_sl (dgt T.c_REGISTERS) (o_none) (o_some (dv 1))) (a_nil)))) (g_n (i := 2) rfl sc_check_result.nd rfl (by first | exact Or.inl rfl | exact Or.inr rfl))) (s_one (s_if (b_cmp o_nis (dv 2) (d_non) (by first | exact nomark _ | rfl)) (s_one (s_never)) (s_next))))
theorem c_Statistic___init__ (T : Tx K mg) : MCal P w K mg base 4 (aM K "Statistic" "__init__") "__init__" "Statistic.__init__" ["self", "kinds", "start", "rules", "result"] st_Statistic___init__ [] d_Statistic___init__ := by
  obtain ⟨fd, M⟩ := T.f_Statistic___init__
  obtain ⟨f0, fd0, C0⟩ := c_check_kinds (P := P) (w := w) (base := base) T
  obtain ⟨f1, fd1, C1⟩ := c_check_start (P := P) (w := w) (base := base) T
  obtain ⟨f2, fd2, C2⟩ := c_check_rules (P := P) (w := w) (base := base) T
  obtain ⟨f3, fd3, C3⟩ := c_check_result (P := P) (w := w) (base := base) T
  refine ⟨fd, M, fd_den (k := 3) M sc_Statistic___init__ fun cdv A outer s H E F I0 W g hr tk ow => ?_⟩
  exact s_cons (s_expr (d_call C0.fn g (hr.mono (by decide)) tk rfl C0.hm C0.made.kp (b_check_kinds C0.made) .nil (a_cons (dv 1) (a_nil)))) (s_cons (s_expr (d_call C1.fn g (hr.mono (by decide)) tk rfl C1.hm C1.made.kp (b_check_start C1.made) .nil (a_cons (dv 2) (a_nil)))) (s_cons (s_expr (d_call C2.fn g (hr.mono (by decide)) tk rfl C2.hm C2.made.kp (b_check_rules C2.made) .nil (a_cons (dv 3) (a_cons (dv 1) (a_cons (d_callB n_len rfl T.n_len (by decide +kernel) (a_cons (dv 2) (a_nil))) (a_nil)))))) (s_cons (s_expr (d_call C3.fn g (hr.mono (by decide)) tk rfl C3.hm C3.made.kp (b_check_result C3.made) .nil (a_cons (dv 4) (a_cons (d_callB n_len rfl T.n_len (by decide +kernel) (a_cons (dv 2) (a_nil))) (a_nil))))) (s_cons (s_fld (cs := ["Greatest", "Least"]) (dv 0) (dv 1) (fun c hc => by simp at hc; rcases hc with rfl | rfl <;> first | exact ⟨T.cls_Greatest, T.noat_Greatest_kinds⟩ | exact ⟨T.cls_Least, T.noat_Least_kinds⟩)) (s_cons (s_fld (cs := ["Greatest", "Least"]) (dv 0) (dv 2) (fun c hc => by simp at hc; rcases hc with rfl | rfl <;> first | exact ⟨T.cls_Greatest, T.noat_Greatest_start⟩ | exact ⟨T.cls_Least, T.noat_Least_start⟩)) (s_cons (s_fld (cs := ["Greatest", "Least"]) (dv 0) (dv 3) (fun c hc => by simp at hc; rcases hc with rfl | rfl <;> first | exact ⟨T.cls_Greatest, T.noat_Greatest_rules⟩ | exact ⟨T.cls_Least, T.noat_Least_rules⟩)) (s_one (s_fld (cs := ["Greatest", "Least"]) (dv 0) (dv 4) (fun c hc => by simp at hc; rcases hc with rfl | rfl <;> first | exact ⟨T.cls_Greatest, T.noat_Greatest_ends⟩ | exact ⟨T.cls_Least, T.noat_Least_ends⟩)))))))))
theorem al_tmk___init___5 (T : Tx K mg) : AllT (fun q => MkOk P w K mg base 4 [] 5 q) tmk___init___5 := by
  have k0 : 4 ≤ 4 := by decide
  exact ⟨⟨_, T.mk_Greatest, (c_Statistic___init__ T).ck (by decide) (kb_Statistic___init___0)⟩, ⟨⟨_, T.mk_Least, (c_Statistic___init__ T).ck (by decide) (kb_Statistic___init___0)⟩, trivial⟩⟩
theorem c__law_of (T : Tx K mg) : ∃ f fd, Cal P w K mg base 6 "_law_of" ["_law_plain_here"] st__law_of [] d__law_of f fd := by
  obtain ⟨f, fd, M, hm⟩ := T.f__law_of
  refine ⟨f, fd, hm, M, fd_den (k := 5) M sc__law_of fun cdv A outer s H E F I0 W g hr tk ow => ?_⟩
  exact s_cons (s_if (b_cmp (o_eq hr.units) (d_ix (dv 0) (d_int)) (d_str) (by first | exact nomark _ | rfl)) (s_one (s_ret (d_frN (d_mk (dcl T.gc_Greatest) (cw_p (a_cons (d_ix (dv 0) (d_int)) (a_cons (d_ix (dv 0) (d_int)) (a_cons (d_ix (dv 0) (d_int)) (a_cons (d_ix (dv 0) (d_int)) (a_nil)))))) (al_tmk___init___5 T) g (hr.mono (by decide)) tk)))) (s_next)) (s_one (s_ret (d_frN (d_mk (dcl T.gc_Least) (cw_p (a_cons (d_ix (dv 0) (d_int)) (a_cons (d_ix (dv 0) (d_int)) (a_cons (d_ix (dv 0) (d_int)) (a_cons (d_ix (dv 0) (d_int)) (a_nil)))))) (al_tmk___init___5 T) g (hr.mono (by decide)) tk))))
theorem c_lines_of (T : Tx K mg) : ∃ f fd, Cal P w K mg base 1 "lines_of" ["plain"] st_lines_of [] d_lines_of f fd := by
  obtain ⟨f, fd, M, hm⟩ := T.f_lines_of
  refine ⟨f, fd, hm, M, fd_den (k := 0) M sc_lines_of fun cdv A outer s H E F I0 W g hr tk ow => ?_⟩
  exact s_cons (s_asg (dv 0) (g_t rfl (gs_cons (g_n (i := 1) rfl sc_lines_of.nd rfl (by first | exact Or.inl rfl | exact Or.inr rfl)) (gs_cons (g_n (i := 2) rfl sc_lines_of.nd rfl (by first | exact Or.inl rfl | exact Or.inr rfl)) (gs_cons (g_n (i := 3) rfl sc_lines_of.nd rfl (by first | exact Or.inl rfl | exact Or.inr rfl)) (gs_cons (g_n (i := 4) rfl sc_lines_of.nd rfl (by first | exact Or.inl rfl | exact Or.inr rfl)) (gs_cons (g_n (i := 5) rfl sc_lines_of.nd rfl (by first | exact Or.inl rfl | exact Or.inr rfl)) (gs_nil)))))))) (s_cons ((by first | exact s_lc (i := 6) (ow := [("begun", 7)]) rfl sc_lines_of.nd rfl rfl (sw_true rfl rfl rfl (by decide +kernel)) (i_seq (dv 3)) (blkOk_by (N := N_lines_of) (sc := defScope st_lines_of) (by decide +kernel)) (fun _ _ _ _ _ _ => g_n (i := 7) rfl sc_lines_of.nd rfl (by first | exact Or.inl rfl | exact Or.inr rfl)) (fun _ _ _ _ _ _ => tt_yes) (fun _ _ _ _ _ _ => d_if (b_cmp o_is (dv 7) (d_non) (by first | exact nomark _ | rfl)) (d_str) (d_str)) (hT := fun _ _ _ h => frz_asg h) | exact s_asg (d_frN (n_lc (ow := [("begun", 7)]) rfl sc_lines_of.nd (i_seq (dv 3)) (blkOk_by (N := N_lines_of) (sc := defScope st_lines_of) (by decide +kernel)) (fun _ _ _ _ _ _ => g_n (i := 7) rfl sc_lines_of.nd rfl (by first | exact Or.inl rfl | exact Or.inr rfl)) (fun _ _ _ _ _ _ => tt_yes) (fun _ _ _ _ _ _ => d_if (b_cmp o_is (dv 7) (d_non) (by first | exact nomark _ | rfl)) (d_str) (d_str)))) (g_n (i := 6) rfl sc_lines_of.nd rfl (by first | exact Or.inl rfl | exact Or.inr rfl)))) (s_cons (s_own (i := 8) sc_lines_of.nd rfl (by first | exact Or.inl rfl | exact Or.inr rfl) (n_disp (a_cons (dv 1) (a_cons (d_join (d_str) (a_cons (d_lst (a_cons (d_str) (a_star (dv 2) (a_nil)))) (a_nil))) (a_cons (d_join (d_str) (a_cons (d_lst (a_cons (d_str) (a_star (dv 6) (a_nil)))) (a_nil))) (a_nil)))))) (s_cons (s_for ow rfl (i_zs rfl T.n_zip (cw_k (a_cons (dv 2) (a_cons (dv 4) (a_nil))) (k_cons (d_bl) (k_nil)))) (g_t rfl (gs_cons (g_n (i := 9) rfl sc_lines_of.nd rfl (by first | exact Or.inl rfl | exact Or.inr rfl)) (gs_cons (g_n (i := 10) rfl sc_lines_of.nd rfl (by first | exact Or.inl rfl | exact Or.inr rfl)) (gs_nil)))) (s_cons (s_own (i := 11) sc_lines_of.nd rfl (by first | exact Or.inl rfl | exact Or.inr rfl) (n_disp (a_nil))) (s_cons (s_for ow rfl (i_zs rfl T.n_zip (cw_k (a_cons (dgt T.c_REGISTERS) (a_cons (dv 10) (a_nil))) (k_cons (d_bl) (k_nil)))) (g_t rfl (gs_cons (g_n (i := 12) rfl sc_lines_of.nd rfl (by first | exact Or.inl rfl | exact Or.inr rfl)) (gs_cons (g_n (i := 13) rfl sc_lines_of.nd rfl (by first | exact Or.inl rfl | exact Or.inr rfl)) (gs_nil)))) (s_one (s_expr (d_append (dv 11) (a_cons (d_fj (dj_cons (d_fmt (dv 12)) (dj_cons (d_str) (dj_cons (d_fmt (d_or (d_join (d_str) (a_cons (dv 13) (a_nil))) (d_one (d_str)))) (dj_nil))))) (a_nil)))))) (s_one (s_expr (d_append (dv 8) (a_cons (d_fj (dj_cons (d_str) (dj_cons (d_fmt (dv 9)) (dj_cons (d_str) (dj_cons (d_fmt (d_join (d_str) (a_cons (dv 11) (a_nil)))) (dj_nil)))))) (a_nil)))))))) (s_one (s_ret (d_lst (a_star (dv 8) (a_cons (d_join (d_str) (a_cons (d_lst (a_cons (d_str) (a_star (dv 5) (a_nil)))) (a_nil))) (a_nil)))))))))
theorem c_Statistic_plain (T : Tx K mg) : MCal P w K mg base 2 (aW K "property" "Statistic" "plain") "plain" "Statistic.plain" ["self"] st_Statistic_plain [] d_Statistic_plain := by
  obtain ⟨fd, M⟩ := T.f_Statistic_plain
  refine ⟨fd, M, fd_den (k := 1) M sc_Statistic_plain fun cdv A outer s H E F I0 W g hr tk ow => ?_⟩
  exact s_one (s_ret (d_tup (a_cons (d_att (dv 0) (al_tatt_SIDE T) g (hr.mono (by decide))) (a_cons (d_att (dv 0) (al_tatt_kinds T) g (hr.mono (by decide))) (a_cons (d_att (dv 0) (al_tatt_start T) g (hr.mono (by decide))) (a_cons (d_att (dv 0) (al_tatt_rules T) g (hr.mono (by decide))) (a_cons (d_att (dv 0) (al_tatt_ends T) g (hr.mono (by decide))) (a_nil))))))))
theorem al_tatt_plain (T : Tx K mg) : AllT (fun q => AttOk P w K mg base 2 "plain" q.1 q.2) tatt_plain := by
  have k0 : 2 ≤ 2 := by decide
  exact ⟨⟨T.cls_Greatest, T.prop_Greatest_plain.imp fun p h => ⟨_, h, (c_Statistic_plain T).co (by decide) (b_Statistic_plain)⟩⟩, ⟨⟨T.cls_Least, T.prop_Least_plain.imp fun p h => ⟨_, h, (c_Statistic_plain T).co (by decide) (b_Statistic_plain)⟩⟩, trivial⟩⟩
theorem c_Statistic___str__ (T : Tx K mg) : MCal P w K mg base 4 (aM K "Statistic" "__str__") "__str__" "Statistic.__str__" ["self"] st_Statistic___str__ [] d_Statistic___str__ := by
  obtain ⟨fd, M⟩ := T.f_Statistic___str__
  obtain ⟨f0, fd0, C0⟩ := c_lines_of (P := P) (w := w) (base := base) T
  refine ⟨fd, M, fd_den (k := 3) M sc_Statistic___str__ fun cdv A outer s H E F I0 W g hr tk ow => ?_⟩
  exact s_one (s_ret (d_join (d_str) (a_cons (d_call C0.fn g (hr.mono (by decide)) tk rfl C0.hm C0.made.kp (b_lines_of C0.made) .nil (a_cons (d_att (dv 0) (al_tatt_plain T) g (hr.mono (by decide))) (a_nil))) (a_nil))))
theorem al_tsp___str__ (T : Tx K mg) : AllT (fun q => SpOk P w K mg base 4 "__str__" q) tsp___str__ := by
  have k0 : 4 ≤ 4 := by decide
  exact ⟨⟨_, T.sp_Greatest___str__.1, T.sp_Greatest___str__.2.1, T.sp_Greatest___str__.2.2, (c_Statistic___str__ T).co (by decide) (b_Statistic___str__)⟩, ⟨⟨_, T.sp_Least___str__.1, T.sp_Least___str__.2.1, T.sp_Least___str__.2.2, (c_Statistic___str__ T).co (by decide) (b_Statistic___str__)⟩, trivial⟩⟩
theorem c_line_at (T : Tx K mg) : ∃ f fd, Cal P w K mg base 1 "line_at" ["lines", "number"] st_line_at [] d_line_at f fd := by
  obtain ⟨f, fd, M, hm⟩ := T.f_line_at
  refine ⟨f, fd, hm, M, fd_den (k := 0) M sc_line_at fun cdv A outer s H E F I0 W g hr tk ow => ?_⟩
  exact s_cons (s_if (b_cmp o_ge (dv 1) (d_callB n_len rfl T.n_len (by decide +kernel) (a_cons (dv 0) (a_nil))) (by first | exact nomark _ | rfl)) (s_one (s_never)) (s_next)) (s_one (s_ret (d_ix (dv 0) (dv 1))))
theorem c_read_words (T : Tx K mg) : ∃ f fd, Cal P w K mg base 1 "read_words" ["line", "first"] st_read_words [] d_read_words f fd := by
  obtain ⟨f, fd, M, hm⟩ := T.f_read_words
  refine ⟨f, fd, hm, M, fd_den (k := 0) M sc_read_words fun cdv A outer s H E F I0 W g hr tk ow => ?_⟩
  exact s_cons (s_asg (d_split (dv 0) (a_cons (d_str) (a_nil))) (g_n (i := 2) rfl sc_read_words.nd rfl (by first | exact Or.inl rfl | exact Or.inr rfl))) (s_one (s_ret (d_if (b_cmp (o_eq hr.units) (d_ix (dv 2) (d_int)) (dv 1) (by first | exact nomark _ | rfl)) (d_callTy n_tup rfl T.n_tuple (by decide +kernel) (a_cons (d_sl (dv 2) (o_some (d_int)) (o_none)) (a_nil))) (d_non))))
theorem c_read_kinds (T : Tx K mg) : ∃ f fd, Cal P w K mg base 2 "read_kinds" ["line"] st_read_kinds [] d_read_kinds f fd := by
  obtain ⟨f, fd, M, hm⟩ := T.f_read_kinds
  obtain ⟨f0, fd0, C0⟩ := c_read_words (P := P) (w := w) (base := base) T
  obtain ⟨f1, fd1, C1⟩ := c_first_fall (P := P) (w := w) (base := base) T
  obtain ⟨f2, fd2, C2⟩ := c_is_kind (P := P) (w := w) (base := base) T
  refine ⟨f, fd, hm, M, fd_den (k := 1) M sc_read_kinds fun cdv A outer s H E F I0 W g hr tk ow => ?_⟩
  exact s_cons (s_asg (d_call C0.fn g (hr.mono (by decide)) tk rfl C0.hm C0.made.kp (b_read_words C0.made) .nil (a_cons (dv 0) (a_cons (d_str) (a_nil)))) (g_n (i := 1) rfl sc_read_kinds.nd rfl (by first | exact Or.inl rfl | exact Or.inr rfl))) (s_cons (s_if (w_pt (w_or (b_cmp o_is (dv 1) (d_non) (by first | exact nomark _ | rfl)) (w_or1 (b_not (b_ch o_le o_le (d_int) (d_callB n_len rfl T.n_len (by decide +kernel) (a_cons (dv 1) (a_nil))) (dg T.c_MAX_KINDS)))))) (s_one (s_never)) (s_next)) (s_cons (s_if (b_cmp o_nis (d_call C1.fn g (hr.mono (by decide)) tk rfl C1.hm C1.made.kp (b_first_fall C1.made) .nil (a_cons (dv 1) (a_cons (d_frN (n_lc (ow := [("kind", 2)]) rfl sc_read_kinds.nd (i_seq (dv 1)) (blkOk_by (N := N_read_kinds) (sc := defScope st_read_kinds) (by decide +kernel)) (fun _ _ _ _ _ _ => g_n (i := 2) rfl sc_read_kinds.nd rfl (by first | exact Or.inl rfl | exact Or.inr rfl)) (fun _ _ _ _ _ _ => tt_one (b_tru (d_call C2.fn g (hr.mono (by decide)) tkN rfl C2.hm C2.made.kp (b_is_kind C2.made) .nil (a_cons (dv 2) (a_nil))) (fun _ => rfl))) (fun _ _ _ _ _ _ => dv 2))) (a_nil)))) (d_non) (by first | exact nomark _ | rfl)) (s_one (s_never)) (s_next)) (s_one (s_ret (dv 1)))))
theorem c_read_start (T : Tx K mg) : ∃ f fd, Cal P w K mg base 2 "read_start" ["line"] st_read_start [] d_read_start f fd := by
  obtain ⟨f, fd, M, hm⟩ := T.f_read_start
  obtain ⟨f0, fd0, C0⟩ := c_read_words (P := P) (w := w) (base := base) T
  refine ⟨f, fd, hm, M, fd_den (k := 1) M sc_read_start fun cdv A outer s H E F I0 W g hr tk ow => ?_⟩
  exact s_cons (s_asg (d_call C0.fn g (hr.mono (by decide)) tk rfl C0.hm C0.made.kp (b_read_words C0.made) .nil (a_cons (dv 0) (a_cons (d_str) (a_nil)))) (g_n (i := 1) rfl sc_read_start.nd rfl (by first | exact Or.inl rfl | exact Or.inr rfl))) (s_cons (s_if (w_pt (w_or (b_cmp o_is (dv 1) (d_non) (by first | exact nomark _ | rfl)) (w_or (b_not (b_ch o_le o_le (d_int) (d_callB n_len rfl T.n_len (by decide +kernel) (a_cons (dv 1) (a_nil))) (dg T.c_MAX_REGISTERS))) (w_or1 (b_tru (d_callB (n_any rfl) rfl T.n_any (by decide +kernel) (a_cons (d_frN (n_lc (ow := [("word", 2)]) rfl sc_read_start.nd (i_seq (dv 1)) (blkOk_by (N := N_read_start) (sc := defScope st_read_start) (by decide +kernel)) (fun _ _ _ _ _ _ => g_n (i := 2) rfl sc_read_start.nd rfl (by first | exact Or.inl rfl | exact Or.inr rfl)) (fun _ _ _ _ _ _ => tt_yes) (fun _ _ _ _ _ _ => d_cmp (o_nin hr.units) (dv 2) (d_tup (a_cons (d_str) (a_cons (d_str) (a_nil)))) (by first | exact nomark _ | rfl)))) (a_nil))) (fun _ => rfl)))))) (s_one (s_never)) (s_next)) (s_one (s_ret (d_callTy n_tup rfl T.n_tuple (by decide +kernel) (a_cons (d_frN (n_lc (ow := [("word", 2)]) rfl sc_read_start.nd (i_seq (dv 1)) (blkOk_by (N := N_read_start) (sc := defScope st_read_start) (by decide +kernel)) (fun _ _ _ _ _ _ => g_n (i := 2) rfl sc_read_start.nd rfl (by first | exact Or.inl rfl | exact Or.inr rfl)) (fun _ _ _ _ _ _ => tt_yes) (fun _ _ _ _ _ _ => d_if (b_cmp (o_eq hr.units) (dv 2) (d_str) (by first | exact nomark _ | rfl)) (d_int) (d_non)))) (a_nil))))))
theorem c_read_terms (T : Tx K mg) : ∃ f fd, Cal P w K mg base 2 "read_terms" ["part", "slot", "count"] st_read_terms [] d_read_terms f fd := by
  obtain ⟨f, fd, M, hm⟩ := T.f_read_terms
  obtain ⟨f0, fd0, C0⟩ := c_first_fall (P := P) (w := w) (base := base) T
  obtain ⟨f1, fd1, C1⟩ := c_terms_of (P := P) (w := w) (base := base) T
  refine ⟨f, fd, hm, M, fd_den (k := 1) M sc_read_terms fun cdv A outer s H E F I0 W g hr tk ow => ?_⟩
  exact s_cons (s_asg (d_partition (dv 0) (a_cons (d_str) (a_nil))) (g_t rfl (gs_cons (g_n (i := 3) rfl sc_read_terms.nd rfl (by first | exact Or.inl rfl | exact Or.inr rfl)) (gs_cons (g_n (i := 4) rfl sc_read_terms.nd rfl (by first | exact Or.inl rfl | exact Or.inr rfl)) (gs_cons (g_n (i := 5) rfl sc_read_terms.nd rfl (by first | exact Or.inl rfl | exact Or.inr rfl)) (gs_nil)))))) (s_cons (s_if (w_pt (w_or (b_cmp (o_ne hr.units) (dv 3) (dv 1) (by first | exact nomark _ | rfl)) (w_or1 (b_cmp (o_eq hr.units) (dv 4) (d_str) (by first | exact nomark _ | rfl))))) (s_one (s_ret (d_non))) (s_next)) (s_cons (s_asg (d_if (b_cmp (o_eq hr.units) (dv 5) (d_str) (by first | exact nomark _ | rfl)) (d_tup (a_nil)) (d_callTy n_tup rfl T.n_tuple (by decide +kernel) (a_cons (d_split (dv 5) (a_cons (d_str) (a_nil))) (a_nil)))) (g_n (i := 6) rfl sc_read_terms.nd rfl (by first | exact Or.inl rfl | exact Or.inr rfl))) (s_one (s_ret (d_if (b_cmp o_is (d_call C0.fn g (hr.mono (by decide)) tk rfl C0.hm C0.made.kp (b_first_fall C0.made) .nil (a_cons (dv 6) (a_cons (d_call C1.fn g (hr.mono (by decide)) tk rfl C1.hm C1.made.kp (b_terms_of C1.made) .nil (a_cons (dv 2) (a_nil))) (a_nil)))) (d_non) (by first | exact nomark _ | rfl)) (dv 6) (d_non))))))
theorem c_read_rule (T : Tx K mg) : ∃ f fd, Cal P w K mg base 3 "read_rule" ["line", "kind", "count"] st_read_rule [] d_read_rule f fd := by
  obtain ⟨f, fd, M, hm⟩ := T.f_read_rule
  obtain ⟨f0, fd0, C0⟩ := c_read_terms (P := P) (w := w) (base := base) T
  refine ⟨f, fd, hm, M, fd_den (k := 2) M sc_read_rule fun cdv A outer s H E F I0 W g hr tk ow => ?_⟩
  exact s_cons (s_if (b_not (b_tru (d_startswith (dv 0) (a_cons (d_fj (dj_cons (d_str) (dj_cons (d_fmt (dv 1)) (dj_cons (d_str) (dj_nil))))) (a_nil))) (fun _ => rfl))) (s_one (s_ret (d_non))) (s_next)) (s_cons (s_asg (d_split (d_removeprefix (dv 0) (a_cons (d_fj (dj_cons (d_str) (dj_cons (d_fmt (dv 1)) (dj_cons (d_str) (dj_nil))))) (a_nil))) (a_cons (d_str) (a_nil))) (g_n (i := 3) rfl sc_read_rule.nd rfl (by first | exact Or.inl rfl | exact Or.inr rfl))) (s_cons (s_if (b_cmp (o_ne hr.units) (d_callB n_len rfl T.n_len (by decide +kernel) (a_cons (dv 3) (a_nil))) (dv 2) (by first | exact nomark _ | rfl)) (s_one (s_ret (d_non))) (s_next)) (s_cons ((by first | exact s_lc (i := 4) (ow := [("at", 5), ("part", 6)]) rfl sc_read_rule.nd rfl rfl (sw_true rfl rfl rfl (by decide +kernel)) (i_en rfl T.n_enumerate (a_cons (dv 3) (a_nil))) (blkOk_by (N := N_read_rule) (sc := defScope st_read_rule) (by decide +kernel)) (fun _ _ _ _ _ _ => g_t rfl (gs_cons (g_n (i := 5) rfl sc_read_rule.nd rfl (by first | exact Or.inl rfl | exact Or.inr rfl)) (gs_cons (g_n (i := 6) rfl sc_read_rule.nd rfl (by first | exact Or.inl rfl | exact Or.inr rfl)) (gs_nil)))) (fun _ _ _ _ _ _ => tt_yes) (fun _ _ _ _ _ _ => d_call C0.fn g (hr.mono (by decide)) tkN rfl C0.hm C0.made.kp (b_read_terms C0.made) .nil (a_cons (dv 6) (a_cons (d_ix (dgt T.c_REGISTERS) (dv 5)) (a_cons (dv 2) (a_nil))))) (hT := fun _ _ _ h => frz_asg h) | exact s_asg (d_frN (n_lc (ow := [("at", 5), ("part", 6)]) rfl sc_read_rule.nd (i_en rfl T.n_enumerate (a_cons (dv 3) (a_nil))) (blkOk_by (N := N_read_rule) (sc := defScope st_read_rule) (by decide +kernel)) (fun _ _ _ _ _ _ => g_t rfl (gs_cons (g_n (i := 5) rfl sc_read_rule.nd rfl (by first | exact Or.inl rfl | exact Or.inr rfl)) (gs_cons (g_n (i := 6) rfl sc_read_rule.nd rfl (by first | exact Or.inl rfl | exact Or.inr rfl)) (gs_nil)))) (fun _ _ _ _ _ _ => tt_yes) (fun _ _ _ _ _ _ => d_call C0.fn g (hr.mono (by decide)) tkN rfl C0.hm C0.made.kp (b_read_terms C0.made) .nil (a_cons (dv 6) (a_cons (d_ix (dgt T.c_REGISTERS) (dv 5)) (a_cons (dv 2) (a_nil))))))) (g_n (i := 4) rfl sc_read_rule.nd rfl (by first | exact Or.inl rfl | exact Or.inr rfl)))) (s_one (s_ret (d_if (b_cmp (o_in hr.units) (d_non) (dv 4) (by first | exact nomark _ | rfl)) (d_non) (d_callTy n_tup rfl T.n_tuple (by decide +kernel) (a_cons (dv 4) (a_nil)))))))))
theorem c_made (T : Tx K mg) : ∃ f fd, Cal P w K mg base 6 "made" ["side", "kinds", "start", "rules", "result"] st_made [] d_made f fd := by
  obtain ⟨f, fd, M, hm⟩ := T.f_made
  refine ⟨f, fd, hm, M, fd_den (k := 5) M sc_made fun cdv A outer s H E F I0 W g hr tk ow => ?_⟩
  exact s_cons (s_if (b_cmp (o_eq hr.units) (dv 0) (d_str) (by first | exact nomark _ | rfl)) (s_one (s_ret (d_frN (d_mk (dcl T.gc_Greatest) (cw_p (a_cons (dv 1) (a_cons (dv 2) (a_cons (dv 3) (a_cons (dv 4) (a_nil)))))) (al_tmk___init___5 T) g (hr.mono (by decide)) tk)))) (s_next)) (s_one (s_ret (d_frN (d_mk (dcl T.gc_Least) (cw_p (a_cons (dv 1) (a_cons (dv 2) (a_cons (dv 3) (a_cons (dv 4) (a_nil)))))) (al_tmk___init___5 T) g (hr.mono (by decide)) tk))))
theorem c_read_lines (T : Tx K mg) : ∃ f fd, Cal P w K mg base 7 "read_lines" ["lines"] st_read_lines [] d_read_lines f fd := by
  obtain ⟨f, fd, M, hm⟩ := T.f_read_lines
  obtain ⟨f0, fd0, C0⟩ := c_line_at (P := P) (w := w) (base := base) T
  obtain ⟨f1, fd1, C1⟩ := c_read_kinds (P := P) (w := w) (base := base) T
  obtain ⟨f2, fd2, C2⟩ := c_read_start (P := P) (w := w) (base := base) T
  obtain ⟨f3, fd3, C3⟩ := c_read_rule (P := P) (w := w) (base := base) T
  obtain ⟨f4, fd4, C4⟩ := c_read_words (P := P) (w := w) (base := base) T
  obtain ⟨f5, fd5, C5⟩ := c_first_fall (P := P) (w := w) (base := base) T
  obtain ⟨f6, fd6, C6⟩ := c_made (P := P) (w := w) (base := base) T
  refine ⟨f, fd, hm, M, fd_den (k := 6) M sc_read_lines fun cdv A outer s H E F I0 W g hr tk ow => ?_⟩
  exact s_cons (s_asg (d_call C0.fn g (hr.mono (by decide)) tk rfl C0.hm C0.made.kp (b_line_at C0.made) .nil (a_cons (dv 0) (a_cons (d_int) (a_nil)))) (g_n (i := 1) rfl sc_read_lines.nd rfl (by first | exact Or.inl rfl | exact Or.inr rfl))) (s_cons (s_if (b_cmp (o_nin hr.units) (dv 1) (d_tup (a_cons (d_str) (a_cons (d_str) (a_nil)))) (by first | exact nomark _ | rfl)) (s_one (s_never)) (s_next)) (s_cons (s_asg (d_call C1.fn g (hr.mono (by decide)) tk rfl C1.hm C1.made.kp (b_read_kinds C1.made) .nil (a_cons (d_call C0.fn g (hr.mono (by decide)) tk rfl C0.hm C0.made.kp (b_line_at C0.made) .nil (a_cons (dv 0) (a_cons (d_int) (a_nil)))) (a_nil))) (g_n (i := 2) rfl sc_read_lines.nd rfl (by first | exact Or.inl rfl | exact Or.inr rfl))) (s_cons (s_asg (d_call C2.fn g (hr.mono (by decide)) tk rfl C2.hm C2.made.kp (b_read_start C2.made) .nil (a_cons (d_call C0.fn g (hr.mono (by decide)) tk rfl C0.hm C0.made.kp (b_line_at C0.made) .nil (a_cons (dv 0) (a_cons (d_int) (a_nil)))) (a_nil))) (g_n (i := 3) rfl sc_read_lines.nd rfl (by first | exact Or.inl rfl | exact Or.inr rfl))) (s_cons (s_own (i := 4) sc_read_lines.nd rfl (by first | exact Or.inl rfl | exact Or.inr rfl) (n_disp (a_nil))) (s_cons (s_for ow rfl (i_es rfl T.n_enumerate (cw_k (a_cons (dv 2) (a_nil)) (k_cons (d_int) (k_nil)))) (g_t rfl (gs_cons (g_n (i := 5) rfl sc_read_lines.nd rfl (by first | exact Or.inl rfl | exact Or.inr rfl)) (gs_cons (g_n (i := 6) rfl sc_read_lines.nd rfl (by first | exact Or.inl rfl | exact Or.inr rfl)) (gs_nil)))) (s_cons (s_asg (d_call C3.fn g (hr.mono (by decide)) tk rfl C3.hm C3.made.kp (b_read_rule C3.made) .nil (a_cons (d_call C0.fn g (hr.mono (by decide)) tk rfl C0.hm C0.made.kp (b_line_at C0.made) .nil (a_cons (dv 0) (a_cons (dv 5) (a_nil)))) (a_cons (dv 6) (a_cons (d_callB n_len rfl T.n_len (by decide +kernel) (a_cons (dv 3) (a_nil))) (a_nil))))) (g_n (i := 7) rfl sc_read_lines.nd rfl (by first | exact Or.inl rfl | exact Or.inr rfl))) (s_cons (s_if (b_cmp o_is (dv 7) (d_non) (by first | exact nomark _ | rfl)) (s_one (s_never)) (s_next)) (s_one (s_expr (d_append (dv 4) (a_cons (dv 7) (a_nil)))))))) (s_cons (s_asg (d_op o_add (d_int) (d_callB n_len rfl T.n_len (by decide +kernel) (a_cons (dv 2) (a_nil)))) (g_n (i := 5) rfl sc_read_lines.nd rfl (by first | exact Or.inl rfl | exact Or.inr rfl))) (s_cons (s_asg (d_call C4.fn g (hr.mono (by decide)) tk rfl C4.hm C4.made.kp (b_read_words C4.made) .nil (a_cons (d_call C0.fn g (hr.mono (by decide)) tk rfl C0.hm C0.made.kp (b_line_at C0.made) .nil (a_cons (dv 0) (a_cons (dv 5) (a_nil)))) (a_cons (d_str) (a_nil)))) (g_n (i := 8) rfl sc_read_lines.nd rfl (by first | exact Or.inl rfl | exact Or.inr rfl))) (s_cons (s_if (w_pt (w_or (b_cmp o_is (dv 8) (d_non) (by first | exact nomark _ | rfl)) (w_or (b_cmp (o_eq hr.units) (dv 8) (d_tup (a_nil)) (by first | exact nomark _ | rfl)) (w_or1 (b_cmp o_nis (d_call C5.fn g (hr.mono (by decide)) tk rfl C5.hm C5.made.kp (b_first_fall C5.made) .nil (a_cons (dv 8) (a_cons (d_sl (dgt T.c_REGISTERS) (o_none) (o_some (d_callB n_len rfl T.n_len (by decide +kernel) (a_cons (dv 3) (a_nil))))) (a_nil)))) (d_non) (by first | exact nomark _ | rfl)))))) (s_one (s_never)) (s_next)) (s_cons (s_if (b_cmp o_gt (d_callB n_len rfl T.n_len (by decide +kernel) (a_cons (dv 0) (a_nil))) (d_op o_add (dv 5) (d_int)) (by first | exact nomark _ | rfl)) (s_one (s_never)) (s_next)) (s_one (s_ret (d_call C6.fn g (hr.mono (by decide)) tk rfl C6.hm C6.made.kp (b_made C6.made) .nil (a_cons (dv 1) (a_cons (dv 2) (a_cons (dv 3) (a_cons (d_callTy n_tup rfl T.n_tuple (by decide +kernel) (a_cons (dv 4) (a_nil))) (a_cons (dv 8) (a_nil))))))))))))))))))
theorem c_Statistic_read (T : Tx K mg) : MCal P w K mg base 8 (aW K "staticmethod" "Statistic" "read") "read" "Statistic.read" ["text"] st_Statistic_read [] d_Statistic_read := by
  obtain ⟨fd, M⟩ := T.f_Statistic_read
  obtain ⟨f0, fd0, C0⟩ := c_read_lines (P := P) (w := w) (base := base) T
  refine ⟨fd, M, fd_den (k := 7) M sc_Statistic_read fun cdv A outer s H E F I0 W g hr tk ow => ?_⟩
  exact s_cons (s_if (b_not (b_tru (d_callB n_isi rfl T.n_isinstance (by decide +kernel) (a_cons (dv 0) (a_cons (d_ty rfl T.n_str (by decide +kernel)) (a_nil)))) (fun _ => rfl))) (s_one (s_never)) (s_next)) (s_one (s_ret (d_call C0.fn g (hr.mono (by decide)) tk rfl C0.hm C0.made.kp (b_read_lines C0.made) .nil (a_cons (d_split (dv 0) (a_cons (d_str) (a_nil))) (a_nil)))))
theorem al_tsm_read_1 (T : Tx K mg) : AllT (fun q => SmOk P w K mg base 8 "read" [] 1 q) tsm_read_1 := by
  have k0 : 8 ≤ 8 := by decide
  exact ⟨(by obtain ⟨mc, p, h1, h2⟩ := T.sm_Statistic_read; exact ⟨mc, p, _, h1, h2, (c_Statistic_read T).ck (by decide) (kb_Statistic_read_0)⟩), ⟨(by obtain ⟨mc, p, h1, h2⟩ := T.sm_Greatest_read; exact ⟨mc, p, _, h1, h2, (c_Statistic_read T).ck (by decide) (kb_Statistic_read_0)⟩), ⟨(by obtain ⟨mc, p, h1, h2⟩ := T.sm_Least_read; exact ⟨mc, p, _, h1, h2, (c_Statistic_read T).ck (by decide) (kb_Statistic_read_0)⟩), trivial⟩⟩⟩
theorem al_tsm_read_0_text (T : Tx K mg) : AllT (fun q => SmOk P w K mg base 8 "read" ["text"] 0 q) tsm_read_0_text := by
  have k0 : 8 ≤ 8 := by decide
  exact ⟨(by obtain ⟨mc, p, h1, h2⟩ := T.sm_Statistic_read; exact ⟨mc, p, _, h1, h2, (c_Statistic_read T).ck (by decide) (kb_Statistic_read_1)⟩), ⟨(by obtain ⟨mc, p, h1, h2⟩ := T.sm_Greatest_read; exact ⟨mc, p, _, h1, h2, (c_Statistic_read T).ck (by decide) (kb_Statistic_read_1)⟩), ⟨(by obtain ⟨mc, p, h1, h2⟩ := T.sm_Least_read; exact ⟨mc, p, _, h1, h2, (c_Statistic_read T).ck (by decide) (kb_Statistic_read_1)⟩), trivial⟩⟩⟩
theorem c__law_draw (T : Tx K mg) : ∃ f fd, Cal P w K mg base 1 "_law_draw" ["_law_pool_here", "_law_many"] st__law_draw [] d__law_draw f fd := by
  obtain ⟨f, fd, M, hm⟩ := T.f__law_draw
  refine ⟨f, fd, hm, M, fd_den (k := 0) M sc__law_draw fun cdv A outer s H E F I0 W g hr tk ow => ?_⟩
  exact s_cons (s_asg (d_op o_add (d_ix (dv 0) (d_int)) (d_int)) (g_s (dv 0) (d_int))) (s_cons (s_asg (d_ix (dv 0) (d_int)) (g_n (i := 2) rfl sc__law_draw.nd rfl (by first | exact Or.inl rfl | exact Or.inr rfl))) (s_cons (s_asg (d_op o_mod (d_op o_add (d_op o_add (d_op o_mul (dv 2) (d_op o_add (d_op o_mod (dv 2) (d_int)) (d_int))) (d_op o_mul (d_int) (d_ix (dv 0) (d_int)))) (d_int)) (d_int)) (g_s (dv 0) (d_int))) (s_cons (s_if (b_cmp o_gt (d_ix (dv 0) (d_int)) (d_int) (by first | exact nomark _ | rfl)) (s_cons (s_asg (d_callB n_divmod rfl T.n_divmod (by decide +kernel) (a_cons (d_ix (dv 0) (d_int)) (a_cons (dv 1) (a_nil)))) (g_t rfl (gs_cons (g_s (dv 0) (d_int)) (gs_cons (g_n (i := 3) rfl sc__law_draw.nd rfl (by first | exact Or.inl rfl | exact Or.inr rfl)) (gs_nil))))) (s_one (s_ret (dv 3)))) (s_next)) (s_one (s_ret (d_op o_mod (d_op o_fdiv (d_ix (dv 0) (d_int)) (d_int)) (dv 1)))))))
theorem c__law_some (T : Tx K mg) : ∃ f fd, Cal P w K mg base 2 "_law_some" ["_law_pool_here", "_law_count", "_law_k"] st__law_some [] d__law_some f fd := by
  obtain ⟨f, fd, M, hm⟩ := T.f__law_some
  obtain ⟨f0, fd0, C0⟩ := c__law_draw (P := P) (w := w) (base := base) T
  obtain ⟨f1, fd1, C1⟩ := c__law_terms (P := P) (w := w) (base := base) T
  refine ⟨f, fd, hm, M, fd_den (k := 1) M sc__law_some fun cdv A outer s H E F I0 W g hr tk ow => ?_⟩
  exact s_cons ((by first | exact s_par (i := 3) (j := 4) rfl sc__law_some.nd rfl rfl (by decide) rfl rfl (a_cons (d_op o_add (d_str) (d_callTy n_str rfl T.n_str (by decide +kernel) (a_cons (dv 2) (a_nil)))) (a_cons (d_call C0.fn g (hr.mono (by decide)) tk rfl C0.hm C0.made.kp (b__law_draw C0.made) .nil (a_cons (dv 0) (a_cons (d_int) (a_nil)))) (a_nil))) rfl | exact s_asg (d_tup (a_cons (d_op o_add (d_str) (d_callTy n_str rfl T.n_str (by decide +kernel) (a_cons (dv 2) (a_nil)))) (a_cons (d_call C0.fn g (hr.mono (by decide)) tk rfl C0.hm C0.made.kp (b__law_draw C0.made) .nil (a_cons (dv 0) (a_cons (d_int) (a_nil)))) (a_nil)))) (g_t rfl (gs_cons (g_n (i := 3) rfl sc__law_some.nd rfl (by first | exact Or.inl rfl | exact Or.inr rfl)) (gs_cons (g_n (i := 4) rfl sc__law_some.nd rfl (by first | exact Or.inl rfl | exact Or.inr rfl)) (gs_nil)))))) (s_cons (s_if (b_cmp o_lt (dv 4) (d_int) (by first | exact nomark _ | rfl)) (s_one (s_ret (d_ix (d_lst (a_cons (d_tup (a_cons (dv 3) (a_nil))) (a_cons (d_tup (a_cons (d_op o_add (dv 3) (d_str)) (a_nil))) (a_cons (d_tup (a_cons (d_op o_add (dv 3) (d_str)) (a_cons (d_str) (a_nil)))) (a_cons (d_tup (a_cons (d_str) (a_nil))) (a_cons (d_tup (a_nil)) (a_nil))))))) (dv 4)))) (s_next)) (s_cons (s_asg (d_call C1.fn g (hr.mono (by decide)) tk rfl C1.hm C1.made.kp (b__law_terms C1.made) .nil (a_cons (dv 1) (a_nil))) (g_n (i := 5) rfl sc__law_some.nd rfl (by first | exact Or.inl rfl | exact Or.inr rfl))) (s_one (s_ret (d_callTy n_tup rfl T.n_tuple (by decide +kernel) (a_cons (d_frN (n_lc (ow := [("_law_term", 6)]) rfl sc__law_some.nd (i_seq (dv 5)) (blkOk_by (N := N__law_some) (sc := defScope st__law_some) (by decide +kernel)) (fun _ _ _ _ _ _ => g_n (i := 6) rfl sc__law_some.nd rfl (by first | exact Or.inl rfl | exact Or.inr rfl)) (fun _ _ _ _ _ _ => tt_one (b_cmp o_lt (d_call C0.fn g (hr.mono (by decide)) tkN rfl C0.hm C0.made.kp (b__law_draw C0.made) .nil (a_cons (dv 0) (a_cons (d_callB n_len rfl T.n_len (by decide +kernel) (a_cons (dv 5) (a_nil))) (a_nil)))) (d_int) (by first | exact nomark _ | rfl))) (fun _ _ _ _ _ _ => dv 6))) (a_nil)))))))
theorem c__law_named (T : Tx K mg) : ∃ f fd, Cal P w K mg base 2 "_law_named" ["_law_pool_here", "_law_many"] st__law_named [] d__law_named f fd := by
  obtain ⟨f, fd, M, hm⟩ := T.f__law_named
  obtain ⟨f0, fd0, C0⟩ := c__law_draw (P := P) (w := w) (base := base) T
  refine ⟨f, fd, hm, M, fd_den (k := 1) M sc__law_named fun cdv A outer s H E F I0 W g hr tk ow => ?_⟩
  exact s_cons (s_asg (d_lst (a_cons (d_lst (a_cons (d_str) (a_cons (d_str) (a_cons (d_str) (a_cons (d_str) (a_nil)))))) (a_cons (d_lst (a_cons (d_str) (a_cons (d_str) (a_cons (d_str) (a_cons (d_str) (a_nil)))))) (a_cons (d_lst (a_cons (d_str) (a_cons (d_str) (a_cons (d_str) (a_cons (d_str) (a_nil)))))) (a_cons (d_lst (a_cons (d_str) (a_cons (d_str) (a_cons (d_str) (a_cons (d_str) (a_nil)))))) (a_nil)))))) (g_n (i := 2) rfl sc__law_named.nd rfl (by first | exact Or.inl rfl | exact Or.inr rfl))) (s_cons (s_asg (d_op o_add (dv 2) (d_lst (a_cons (d_lst (a_cons (d_str) (a_cons (d_str) (a_cons (d_str) (a_cons (d_str) (a_nil)))))) (a_cons (d_lst (a_cons (d_str) (a_cons (d_str) (a_cons (d_str) (a_cons (d_str) (a_nil)))))) (a_nil))))) (g_n (i := 2) rfl sc__law_named.nd rfl (by first | exact Or.inl rfl | exact Or.inr rfl))) (s_one (s_ret (d_callTy n_tup rfl T.n_tuple (by decide +kernel) (a_cons (d_sl (d_ix (dv 2) (d_call C0.fn g (hr.mono (by decide)) tk rfl C0.hm C0.made.kp (b__law_draw C0.made) .nil (a_cons (dv 0) (a_cons (d_int) (a_nil))))) (o_none) (o_some (dv 1))) (a_nil))))))
theorem c__law_plain (T : Tx K mg) : ∃ f fd, Cal P w K mg base 3 "_law_plain" ["_law_pool_here", "_law_many", "_law_count"] st__law_plain [] d__law_plain f fd := by
  obtain ⟨f, fd, M, hm⟩ := T.f__law_plain
  obtain ⟨f0, fd0, C0⟩ := c__law_draw (P := P) (w := w) (base := base) T
  obtain ⟨f1, fd1, C1⟩ := c__law_some (P := P) (w := w) (base := base) T
  obtain ⟨f2, fd2, C2⟩ := c__law_named (P := P) (w := w) (base := base) T
  refine ⟨f, fd, hm, M, fd_den (k := 2) M sc__law_plain fun cdv A outer s H E F I0 W g hr tk ow => ?_⟩
  exact s_cons (s_asg (d_callTy n_tup rfl T.n_tuple (by decide +kernel) (a_cons (d_frN (n_lc (ow := [("_law_k", 4)]) rfl sc__law_plain.nd (i_r1 rfl T.n_range (a_cons (dv 2) (a_nil))) (blkOk_by (N := N__law_plain) (sc := defScope st__law_plain) (by decide +kernel)) (fun _ _ _ _ _ _ => g_n (i := 4) rfl sc__law_plain.nd rfl (by first | exact Or.inl rfl | exact Or.inr rfl)) (fun _ _ _ _ _ _ => tt_yes) (fun _ _ _ _ _ _ => d_ix (d_lst (a_cons (d_int) (a_cons (d_non) (a_nil)))) (d_call C0.fn g (hr.mono (by decide)) tkN rfl C0.hm C0.made.kp (b__law_draw C0.made) .nil (a_cons (dv 0) (a_cons (d_int) (a_nil))))))) (a_nil))) (g_n (i := 3) rfl sc__law_plain.nd rfl (by first | exact Or.inl rfl | exact Or.inr rfl))) (s_cons (s_asg (d_callTy n_tup rfl T.n_tuple (by decide +kernel) (a_cons (d_frN (n_lc (ow := [("_law_turn", 6)]) rfl sc__law_plain.nd (i_r1 rfl T.n_range (a_cons (dv 1) (a_nil))) (blkOk_by (N := N__law_plain) (sc := defScope st__law_plain) (by decide +kernel)) (fun _ _ _ _ _ _ => g_n (i := 6) rfl sc__law_plain.nd rfl (by first | exact Or.inl rfl | exact Or.inr rfl)) (fun _ _ _ _ _ _ => tt_yes) (fun _ _ _ _ _ _ => d_callTy n_tup rfl T.n_tuple (by decide +kernel) (a_cons (d_frN (n_lc (ow := [("_law_k", 4)]) rfl sc__law_plain.nd (i_r1 rfl T.n_range (a_cons (dv 2) (a_nil))) (by refine blkOk_by ?_; kernel_rfl) (fun _ _ _ _ _ _ => g_n (i := 4) rfl sc__law_plain.nd rfl (by first | exact Or.inl rfl | exact Or.inr rfl)) (fun _ _ _ _ _ _ => tt_yes) (fun _ _ _ _ _ _ => d_call C1.fn g (hr.mono (by decide)) tkN rfl C1.hm C1.made.kp (b__law_some C1.made) .nil (a_cons (dv 0) (a_cons (dv 2) (a_cons (dv 4) (a_nil))))))) (a_nil))))) (a_nil))) (g_n (i := 5) rfl sc__law_plain.nd rfl (by first | exact Or.inl rfl | exact Or.inr rfl))) (s_cons ((by first | exact s_lc (i := 7) (ow := [("_law_k", 4)]) rfl sc__law_plain.nd rfl rfl (sw_true rfl rfl rfl (by decide +kernel)) (i_r1 rfl T.n_range (a_cons (dv 2) (a_nil))) (blkOk_by (N := N__law_plain) (sc := defScope st__law_plain) (by decide +kernel)) (fun _ _ _ _ _ _ => g_n (i := 4) rfl sc__law_plain.nd rfl (by first | exact Or.inl rfl | exact Or.inr rfl)) (fun _ _ _ _ _ _ => tt_one (b_cmp (o_eq hr.units) (d_call C0.fn g (hr.mono (by decide)) tkN rfl C0.hm C0.made.kp (b__law_draw C0.made) .nil (a_cons (dv 0) (a_cons (d_int) (a_nil)))) (d_int) (by first | exact nomark _ | rfl))) (fun _ _ _ _ _ _ => dv 4) (hT := fun _ _ _ h => frz_asg h) | exact s_asg (d_frN (n_lc (ow := [("_law_k", 4)]) rfl sc__law_plain.nd (i_r1 rfl T.n_range (a_cons (dv 2) (a_nil))) (blkOk_by (N := N__law_plain) (sc := defScope st__law_plain) (by decide +kernel)) (fun _ _ _ _ _ _ => g_n (i := 4) rfl sc__law_plain.nd rfl (by first | exact Or.inl rfl | exact Or.inr rfl)) (fun _ _ _ _ _ _ => tt_one (b_cmp (o_eq hr.units) (d_call C0.fn g (hr.mono (by decide)) tkN rfl C0.hm C0.made.kp (b__law_draw C0.made) .nil (a_cons (dv 0) (a_cons (d_int) (a_nil)))) (d_int) (by first | exact nomark _ | rfl))) (fun _ _ _ _ _ _ => dv 4))) (g_n (i := 7) rfl sc__law_plain.nd rfl (by first | exact Or.inl rfl | exact Or.inr rfl)))) (s_cons (s_asg (d_if (b_cmp (o_eq hr.units) (dv 7) (d_lst (a_nil)) (by first | exact nomark _ | rfl)) (d_lst (a_cons (d_op o_sub (dv 2) (d_int)) (a_nil))) (dv 7)) (g_n (i := 7) rfl sc__law_plain.nd rfl (by first | exact Or.inl rfl | exact Or.inr rfl))) (s_cons (s_asg (d_ix (d_lst (a_cons (d_str) (a_cons (d_str) (a_nil)))) (d_call C0.fn g (hr.mono (by decide)) tk rfl C0.hm C0.made.kp (b__law_draw C0.made) .nil (a_cons (dv 0) (a_cons (d_int) (a_nil))))) (g_n (i := 8) rfl sc__law_plain.nd rfl (by first | exact Or.inl rfl | exact Or.inr rfl))) (s_one (s_ret (d_tup (a_cons (dv 8) (a_cons (d_call C2.fn g (hr.mono (by decide)) tk rfl C2.hm C2.made.kp (b__law_named C2.made) .nil (a_cons (dv 0) (a_cons (dv 1) (a_nil)))) (a_cons (dv 3) (a_cons (dv 5) (a_cons (d_callTy n_tup rfl T.n_tuple (by decide +kernel) (a_cons (d_frN (n_lc (ow := [("_law_k", 4)]) rfl sc__law_plain.nd (i_seq (dv 7)) (blkOk_by (N := N__law_plain) (sc := defScope st__law_plain) (by decide +kernel)) (fun _ _ _ _ _ _ => g_n (i := 4) rfl sc__law_plain.nd rfl (by first | exact Or.inl rfl | exact Or.inr rfl)) (fun _ _ _ _ _ _ => tt_yes) (fun _ _ _ _ _ _ => d_op o_add (d_str) (d_callTy n_str rfl T.n_str (by decide +kernel) (a_cons (dv 4) (a_nil)))))) (a_nil))) (a_nil)))))))))))))
theorem c__law_great (T : Tx K mg) : ∃ f fd, Cal P w K mg base 4 "_law_great" ["_law_pool_here"] st__law_great [] d__law_great f fd := by
  obtain ⟨f, fd, M, hm⟩ := T.f__law_great
  obtain ⟨f0, fd0, C0⟩ := c__law_plain (P := P) (w := w) (base := base) T
  obtain ⟨f1, fd1, C1⟩ := c__law_draw (P := P) (w := w) (base := base) T
  refine ⟨f, fd, hm, M, fd_den (k := 3) M sc__law_great fun cdv A outer s H E F I0 W g hr tk ow => ?_⟩
  exact s_one (s_ret (d_call C0.fn g (hr.mono (by decide)) tk rfl C0.hm C0.made.kp (b__law_plain C0.made) .nil (a_cons (dv 0) (a_cons (d_op o_add (d_int) (d_call C1.fn g (hr.mono (by decide)) tk rfl C1.hm C1.made.kp (b__law_draw C1.made) .nil (a_cons (dv 0) (a_cons (d_int) (a_nil))))) (a_cons (d_op o_add (d_int) (d_call C1.fn g (hr.mono (by decide)) tk rfl C1.hm C1.made.kp (b__law_draw C1.made) .nil (a_cons (dv 0) (a_cons (d_int) (a_nil))))) (a_nil))))))
theorem c__law_small (T : Tx K mg) : ∃ f fd, Cal P w K mg base 4 "_law_small" ["_law_pool_here"] st__law_small [] d__law_small f fd := by
  obtain ⟨f, fd, M, hm⟩ := T.f__law_small
  obtain ⟨f0, fd0, C0⟩ := c__law_plain (P := P) (w := w) (base := base) T
  obtain ⟨f1, fd1, C1⟩ := c__law_draw (P := P) (w := w) (base := base) T
  refine ⟨f, fd, hm, M, fd_den (k := 3) M sc__law_small fun cdv A outer s H E F I0 W g hr tk ow => ?_⟩
  exact s_one (s_ret (d_call C0.fn g (hr.mono (by decide)) tk rfl C0.hm C0.made.kp (b__law_plain C0.made) .nil (a_cons (dv 0) (a_cons (d_op o_add (d_int) (d_call C1.fn g (hr.mono (by decide)) tk rfl C1.hm C1.made.kp (b__law_draw C1.made) .nil (a_cons (dv 0) (a_cons (d_int) (a_nil))))) (a_cons (d_op o_add (d_int) (d_call C1.fn g (hr.mono (by decide)) tk rfl C1.hm C1.made.kp (b__law_draw C1.made) .nil (a_cons (dv 0) (a_cons (d_int) (a_nil))))) (a_nil))))))
theorem c_Statistic___eq__ (T : Tx K mg) : MCal P w K mg base 4 (aM K "Statistic" "__eq__") "__eq__" "Statistic.__eq__" ["self", "other"] st_Statistic___eq__ [] d_Statistic___eq__ := by
  obtain ⟨fd, M⟩ := T.f_Statistic___eq__
  refine ⟨fd, M, fd_den (k := 3) M sc_Statistic___eq__ fun cdv A outer s H E F I0 W g hr tk ow => ?_⟩
  exact s_one (s_ret (d_and (d_callB (n_isiX T.isi) rfl T.n_isinstance (by decide +kernel) (a_cons (dv 1) (a_cons (dcl T.gc_Statistic) (a_nil)))) (d_one (d_cmp (o_eq hr.units) (d_att (dv 0) (al_tatt_plain T) g (hr.mono (by decide))) (d_att (dv 1) (al_tatt_plain T) g (hr.mono (by decide))) (by first | exact nomark _ | rfl)))))
theorem al_tsp___eq__ (T : Tx K mg) : AllT (fun q => SpOk P w K mg base 4 "__eq__" q) tsp___eq__ := by
  have k0 : 4 ≤ 4 := by decide
  exact ⟨⟨_, T.sp_Greatest___eq__.1, T.sp_Greatest___eq__.2.1, T.sp_Greatest___eq__.2.2, (c_Statistic___eq__ T).co (by decide) (b_Statistic___eq__)⟩, ⟨⟨_, T.sp_Least___eq__.1, T.sp_Least___eq__.2.1, T.sp_Least___eq__.2.2, (c_Statistic___eq__ T).co (by decide) (b_Statistic___eq__)⟩, trivial⟩⟩
theorem c__law_events (T : Tx K mg) : ∃ f fd, Cal P w K mg base 2 "_law_events" ["_law_pool_here", "_law_plain_here", "_law_size", "_law_wide"] st__law_events [] d__law_events f fd := by
  obtain ⟨f, fd, M, hm⟩ := T.f__law_events
  obtain ⟨f0, fd0, C0⟩ := c__law_draw (P := P) (w := w) (base := base) T
  refine ⟨f, fd, hm, M, fd_den (k := 1) M sc__law_events fun cdv A outer s H E F I0 W g hr tk ow => ?_⟩
  exact s_cons (s_asg (d_ix (dv 1) (d_int)) (g_n (i := 4) rfl sc__law_events.nd rfl (by first | exact Or.inl rfl | exact Or.inr rfl))) (s_one (s_ret (d_callTy n_tup rfl T.n_tuple (by decide +kernel) (a_cons (d_frN (n_lc (ow := [("_law_k", 5)]) rfl sc__law_events.nd (i_r1 rfl T.n_range (a_cons (dv 2) (a_nil))) (blkOk_by (N := N__law_events) (sc := defScope st__law_events) (by decide +kernel)) (fun _ _ _ _ _ _ => g_n (i := 5) rfl sc__law_events.nd rfl (by first | exact Or.inl rfl | exact Or.inr rfl)) (fun _ _ _ _ _ _ => tt_yes) (fun _ _ _ _ _ _ => d_tup (a_cons (d_ix (dv 4) (d_call C0.fn g (hr.mono (by decide)) tkN rfl C0.hm C0.made.kp (b__law_draw C0.made) .nil (a_cons (dv 0) (a_cons (d_callB n_len rfl T.n_len (by decide +kernel) (a_cons (dv 4) (a_nil))) (a_nil))))) (a_cons (d_op o_sub (d_call C0.fn g (hr.mono (by decide)) tkN rfl C0.hm C0.made.kp (b__law_draw C0.made) .nil (a_cons (dv 0) (a_cons (d_op o_add (d_op o_mul (d_int) (dv 3)) (d_int)) (a_nil)))) (dv 3)) (a_nil)))))) (a_nil)))))
theorem c__law_source (T : Tx K mg) : ∃ f fd, Cal P w K mg base 1 "_law_source" ["_law_term"] st__law_source [] d__law_source f fd := by
  obtain ⟨f, fd, M, hm⟩ := T.f__law_source
  refine ⟨f, fd, hm, M, fd_den (k := 0) M sc__law_source fun cdv A outer s H E F I0 W g hr tk ow => ?_⟩
  exact s_cons (s_if (b_cmp (o_in hr.units) (dv 0) (d_lst (a_cons (d_str) (a_cons (d_str) (a_nil)))) (by first | exact nomark _ | rfl)) (s_one (s_ret (d_tup (a_cons (d_str) (a_cons (d_cmp (o_eq hr.units) (dv 0) (d_str) (by first | exact nomark _ | rfl)) (a_nil)))))) (s_next)) (s_one (s_ret (d_tup (a_cons (d_sl (dv 0) (o_none) (o_some (d_int))) (a_cons (d_cmp o_gt (d_callB n_len rfl T.n_len (by decide +kernel) (a_cons (dv 0) (a_nil))) (d_int) (by first | exact nomark _ | rfl)) (a_nil))))))
theorem c__law_best (T : Tx K mg) : ∃ f fd, Cal P w K mg base 1 "_law_best" ["_law_side", "_law_some_here"] st__law_best [] d__law_best f fd := by
  obtain ⟨f, fd, M, hm⟩ := T.f__law_best
  refine ⟨f, fd, hm, M, fd_den (k := 0) M sc__law_best fun cdv A outer s H E F I0 W g hr tk ow => ?_⟩
  exact s_cons ((by first | exact s_lc (i := 2) (ow := [("_law_value_here", 3)]) rfl sc__law_best.nd rfl rfl (sw_true rfl rfl rfl (by decide +kernel)) (i_seq (dv 1)) (blkOk_by (N := N__law_best) (sc := defScope st__law_best) (by decide +kernel)) (fun _ _ _ _ _ _ => g_n (i := 3) rfl sc__law_best.nd rfl (by first | exact Or.inl rfl | exact Or.inr rfl)) (fun _ _ _ _ _ _ => tt_one (b_cmp o_nis (dv 3) (d_non) (by first | exact nomark _ | rfl))) (fun _ _ _ _ _ _ => dv 3) (hT := fun _ _ _ h => frz_asg h) | exact s_asg (d_frN (n_lc (ow := [("_law_value_here", 3)]) rfl sc__law_best.nd (i_seq (dv 1)) (blkOk_by (N := N__law_best) (sc := defScope st__law_best) (by decide +kernel)) (fun _ _ _ _ _ _ => g_n (i := 3) rfl sc__law_best.nd rfl (by first | exact Or.inl rfl | exact Or.inr rfl)) (fun _ _ _ _ _ _ => tt_one (b_cmp o_nis (dv 3) (d_non) (by first | exact nomark _ | rfl))) (fun _ _ _ _ _ _ => dv 3))) (g_n (i := 2) rfl sc__law_best.nd rfl (by first | exact Or.inl rfl | exact Or.inr rfl)))) (s_cons (s_if (b_cmp (o_eq hr.units) (dv 2) (d_lst (a_nil)) (by first | exact nomark _ | rfl)) (s_one (s_ret (d_non))) (s_next)) (s_one (s_ret (d_if (b_cmp (o_eq hr.units) (dv 0) (d_str) (by first | exact nomark _ | rfl)) (d_callB (n_max rfl) rfl T.n_max (by decide +kernel) (a_cons (dv 2) (a_nil))) (d_callB (n_min rfl) rfl T.n_min (by decide +kernel) (a_cons (dv 2) (a_nil)))))))
theorem c__law_step (T : Tx K mg) : ∃ f fd, Cal P w K mg base 2 "_law_step" ["_law_plain_here", "_law_held", "_law_event"] st__law_step [] d__law_step f fd := by
  obtain ⟨f, fd, M, hm⟩ := T.f__law_step
  obtain ⟨f0, fd0, C0⟩ := c__law_source (P := P) (w := w) (base := base) T
  obtain ⟨f1, fd1, C1⟩ := c__law_best (P := P) (w := w) (base := base) T
  refine ⟨f, fd, hm, M, fd_den (k := 1) M sc__law_step fun cdv A outer s H E F I0 W g hr tk ow => ?_⟩
  exact s_cons (s_ow2 (i := 3) (j := 4) rfl sc__law_step.nd rfl rfl (by decide) rfl rfl (n_dct (dps_cons (fun _ => d_str) (fun _ => d_int) dps_nil)) rfl) (s_cons (s_for ow rfl (i_r1 rfl T.n_range (a_cons (d_callB n_len rfl T.n_len (by decide +kernel) (a_cons (dv 1) (a_nil))) (a_nil))) (g_n (i := 5) rfl sc__law_step.nd rfl (by first | exact Or.inl rfl | exact Or.inr rfl)) (s_one (s_asg (d_ixY (dv 1) (dv 5) hr.units) (g_sY hr.units (dv 3) (d_op o_add (d_str) (d_callTy n_str rfl T.n_str (by decide +kernel) (a_cons (dv 5) (a_nil)))))))) (s_cons (s_for ow rfl (i_seq (d_ixY (d_ixY (dv 0) (d_int) hr.units) (d_tindex (d_ixY (dv 0) (d_int) hr.units) (a_cons (d_ixY (dv 2) (d_int) hr.units) (a_nil))) hr.units)) (g_n (i := 6) rfl sc__law_step.nd rfl (by first | exact Or.inl rfl | exact Or.inr rfl)) (s_cons (s_own (i := 7) sc__law_step.nd rfl (by first | exact Or.inl rfl | exact Or.inr rfl) (n_disp (a_nil))) (s_cons (s_for ow rfl (i_seq (dv 6)) (g_n (i := 8) rfl sc__law_step.nd rfl (by first | exact Or.inl rfl | exact Or.inr rfl)) (s_cons (s_asg (d_call C0.fn g (hr.mono (by decide)) tk rfl C0.hm C0.made.kp (b__law_source C0.made) .nil (a_cons (dv 8) (a_nil))) (g_t rfl (gs_cons (g_n (i := 9) rfl sc__law_step.nd rfl (by first | exact Or.inl rfl | exact Or.inr rfl)) (gs_cons (g_n (i := 10) rfl sc__law_step.nd rfl (by first | exact Or.inl rfl | exact Or.inr rfl)) (gs_nil))))) (s_one (s_if (b_cmp o_nis (d_ixY (dv 3) (dv 9) hr.units) (d_non) (by first | exact nomark _ | rfl)) (s_one (s_expr (d_append (dv 7) (a_cons (d_op o_add (d_ixY (dv 3) (dv 9) hr.units) (d_op o_mul (d_ixY (dv 2) (d_int) hr.units) (d_callTy n_int rfl T.n_int (by decide +kernel) (a_cons (dv 10) (a_nil))))) (a_nil))))) (s_next))))) (s_one (s_expr (d_append (dv 4) (a_cons (d_call C1.fn g (hr.mono (by decide)) tk rfl C1.hm C1.made.kp (b__law_best C1.made) .nil (a_cons (d_ixY (dv 0) (d_int) hr.units) (a_cons (dvf 7) (a_nil)))) (a_nil)))))))) (s_one (s_ret (d_callTy n_tup rfl T.n_tuple (by decide +kernel) (a_cons (dv 4) (a_nil)))))))
theorem c__law_end (T : Tx K mg) : ∃ f fd, Cal P w K mg base 2 "_law_end" ["_law_plain_here", "_law_held"] st__law_end [] d__law_end f fd := by
  obtain ⟨f, fd, M, hm⟩ := T.f__law_end
  obtain ⟨f0, fd0, C0⟩ := c__law_best (P := P) (w := w) (base := base) T
  refine ⟨f, fd, hm, M, fd_den (k := 1) M sc__law_end fun cdv A outer s H E F I0 W g hr tk ow => ?_⟩
  exact s_one (s_ret (d_call C0.fn g (hr.mono (by decide)) tk rfl C0.hm C0.made.kp (b__law_best C0.made) .nil (a_cons (d_ix (dv 0) (d_int)) (a_cons (d_frN (n_lc (ow := [("_law_one_end", 2)]) rfl sc__law_end.nd (i_seq (d_ix (dv 0) (d_int))) (blkOk_by (N := N__law_end) (sc := defScope st__law_end) (by decide +kernel)) (fun _ _ _ _ _ _ => g_n (i := 2) rfl sc__law_end.nd rfl (by first | exact Or.inl rfl | exact Or.inr rfl)) (fun _ _ _ _ _ _ => tt_yes) (fun _ _ _ _ _ _ => d_ix (dv 1) (d_callTy n_int rfl T.n_int (by decide +kernel) (a_cons (d_sl (dv 2) (o_some (d_int)) (o_none)) (a_nil)))))) (a_nil)))))
theorem c__law_result (T : Tx K mg) : ∃ f fd, Cal P w K mg base 3 "_law_result" ["_law_plain_here", "_law_events_here"] st__law_result [] d__law_result f fd := by
  obtain ⟨f, fd, M, hm⟩ := T.f__law_result
  obtain ⟨f0, fd0, C0⟩ := c__law_step (P := P) (w := w) (base := base) T
  obtain ⟨f1, fd1, C1⟩ := c__law_end (P := P) (w := w) (base := base) T
  refine ⟨f, fd, hm, M, fd_den (k := 2) M sc__law_result fun cdv A outer s H E F I0 W g hr tk ow => ?_⟩
  exact s_cons (s_asg (d_ix (dv 0) (d_int)) (g_n (i := 2) rfl sc__law_result.nd rfl (by first | exact Or.inl rfl | exact Or.inr rfl))) (s_cons (s_for ow rfl (i_seq (dv 1)) (g_n (i := 3) rfl sc__law_result.nd rfl (by first | exact Or.inl rfl | exact Or.inr rfl)) (s_one (s_asg (d_call C0.fn g (hr.mono (by decide)) tk rfl C0.hm C0.made.kp (b__law_step C0.made) .nil (a_cons (dv 0) (a_cons (dv 2) (a_cons (dv 3) (a_nil))))) (g_n (i := 2) rfl sc__law_result.nd rfl (by first | exact Or.inl rfl | exact Or.inr rfl))))) (s_one (s_ret (d_call C1.fn g (hr.mono (by decide)) tk rfl C1.hm C1.made.kp (b__law_end C1.made) .nil (a_cons (dv 0) (a_cons (dv 2) (a_nil)))))))
theorem c_is_amount (T : Tx K mg) : ∃ f fd, Cal P w K mg base 2 "is_amount" ["value"] st_is_amount [] d_is_amount f fd := by
  obtain ⟨f, fd, M, hm⟩ := T.f_is_amount
  obtain ⟨f0, fd0, C0⟩ := c_is_integer (P := P) (w := w) (base := base) T
  refine ⟨f, fd, hm, M, fd_den (k := 1) M sc_is_amount fun cdv A outer s H E F I0 W g hr tk ow => ?_⟩
  exact s_one (s_ret (d_and (d_call C0.fn g (hr.mono (by decide)) tk rfl C0.hm C0.made.kp (b_is_integer C0.made) .nil (a_cons (dv 0) (a_nil))) (d_one (d_ch o_le o_le (d_neg (dg T.c_MAX_AMOUNT)) (dv 0) (dg T.c_MAX_AMOUNT)))))
theorem c_is_event (T : Tx K mg) : ∃ f fd, Cal P w K mg base 3 "is_event" ["value"] st_is_event [] d_is_event f fd := by
  obtain ⟨f, fd, M, hm⟩ := T.f_is_event
  obtain ⟨f0, fd0, C0⟩ := c_is_kind (P := P) (w := w) (base := base) T
  obtain ⟨f1, fd1, C1⟩ := c_is_amount (P := P) (w := w) (base := base) T
  refine ⟨f, fd, hm, M, fd_den (k := 2) M sc_is_event fun cdv A outer s H E F I0 W g hr tk ow => ?_⟩
  exact s_one (s_ret (d_and (d_callB n_isi rfl T.n_isinstance (by decide +kernel) (a_cons (dv 0) (a_cons (d_ty rfl T.n_tuple (by decide +kernel)) (a_nil)))) (d_and (d_cmp (o_eq hr.units) (d_callB n_len rfl T.n_len (by decide +kernel) (a_cons (dv 0) (a_nil))) (d_int) (by first | exact nomark _ | rfl)) (d_and (d_call C0.fn g (hr.mono (by decide)) tk rfl C0.hm C0.made.kp (b_is_kind C0.made) .nil (a_cons (d_ix (dv 0) (d_int)) (a_nil))) (d_one (d_call C1.fn g (hr.mono (by decide)) tk rfl C1.hm C1.made.kp (b_is_amount C1.made) .nil (a_cons (d_ix (dv 0) (d_int)) (a_nil))))))))
theorem c_first_wrong (T : Tx K mg) : ∃ f fd, Cal P w K mg base 4 "first_wrong" ["value", "kinds"] st_first_wrong [V.non] d_first_wrong f fd := by
  obtain ⟨f, fd, M, hm⟩ := T.f_first_wrong
  obtain ⟨f0, fd0, C0⟩ := c_is_event (P := P) (w := w) (base := base) T
  refine ⟨f, fd, hm, M, fd_den (k := 3) M sc_first_wrong fun cdv A outer s H E F I0 W g hr tk ow => ?_⟩
  exact s_cons (s_if (w_pt (w_or (b_not (b_tru (d_callB n_isi rfl T.n_isinstance (by decide +kernel) (a_cons (dv 0) (a_cons (d_ty rfl T.n_tuple (by decide +kernel)) (a_nil)))) (fun _ => rfl))) (w_or1 (b_cmp o_gt (d_callB n_len rfl T.n_len (by decide +kernel) (a_cons (dv 0) (a_nil))) (dg T.c_MAX_EVENTS) (by first | exact nomark _ | rfl))))) (s_one (s_ret (d_tup (a_cons (d_non) (a_nil))))) (s_next)) (s_cons (s_for ow rfl (i_en rfl T.n_enumerate (a_cons (dv 0) (a_nil))) (g_t rfl (gs_cons (g_n (i := 2) rfl sc_first_wrong.nd rfl (by first | exact Or.inl rfl | exact Or.inr rfl)) (gs_cons (g_n (i := 3) rfl sc_first_wrong.nd rfl (by first | exact Or.inl rfl | exact Or.inr rfl)) (gs_nil)))) (s_one (s_if (w_pt (w_or (b_not (b_tru (d_call C0.fn g (hr.mono (by decide)) tk rfl C0.hm C0.made.kp (b_is_event C0.made) .nil (a_cons (dv 3) (a_nil))) (fun _ => rfl))) (w_or1 (w_pt (w_and (b_cmp o_nis (dv 1) (d_non) (by first | exact nomark _ | rfl)) (w_and1 (b_cmp (o_nin hr.units) (d_ix (dv 3) (d_int)) (dv 1) (by first | exact nomark _ | rfl)))))))) (s_one (s_ret (d_tup (a_cons (dv 2) (a_nil))))) (s_next)))) (s_one (s_ret (d_non))))
theorem c_check_log (T : Tx K mg) : ∃ f fd, Cal P w K mg base 5 "check_log" ["log", "kinds"] st_check_log [V.non] d_check_log f fd := by
  obtain ⟨f, fd, M, hm⟩ := T.f_check_log
  obtain ⟨f0, fd0, C0⟩ := c_first_wrong (P := P) (w := w) (base := base) T
  obtain ⟨dU0_2, rU0_2, bU0_2⟩ := b_first_wrong_2 C0.made
  have B0_2 : DfR K [] [] dU0_2 ∧ Binds K fd0 ["value", "kinds"] dU0_2 := ⟨⟨rU0_2, fun G I l => rfl⟩, bU0_2⟩
  refine ⟨f, fd, hm, M, fd_den (k := 4) M sc_check_log fun cdv A outer s H E F I0 W g hr tk ow => ?_⟩
  exact s_one (s_ifW (bw_cmp (i := 2) sc_check_log.nd rfl (by first | exact Or.inl rfl | exact Or.inr rfl) o_nis (d_call C0.fn g (hr.mono (by decide)) tk rfl C0.hm C0.made.kp B0_2.2 B0_2.1 (a_cons (dv 0) (a_cons (dv 1) (a_nil)))) (d_non) (by first | exact nomark _ | rfl)) (s_one (s_never)) (s_next))
theorem c_source_of (T : Tx K mg) : ∃ f fd, Cal P w K mg base 1 "source_of" ["term"] st_source_of [] d_source_of f fd := by
  obtain ⟨f, fd, M, hm⟩ := T.f_source_of
  refine ⟨f, fd, hm, M, fd_den (k := 0) M sc_source_of fun cdv A outer s H E F I0 W g hr tk ow => ?_⟩
  exact s_cons (s_if (b_cmp (o_in hr.units) (dv 0) (d_tup (a_cons (d_str) (a_cons (d_str) (a_nil)))) (by first | exact nomark _ | rfl)) (s_one (s_ret (d_tup (a_cons (d_str) (a_cons (d_cmp (o_eq hr.units) (dv 0) (d_str) (by first | exact nomark _ | rfl)) (a_nil)))))) (s_next)) (s_one (s_ret (d_tup (a_cons (d_sl (dv 0) (o_none) (o_some (d_int))) (a_cons (d_cmp o_gt (d_callB n_len rfl T.n_len (by decide +kernel) (a_cons (dv 0) (a_nil))) (d_int) (by first | exact nomark _ | rfl)) (a_nil))))))
theorem c_best_of (T : Tx K mg) : ∃ f fd, Cal P w K mg base 1 "best_of" ["side", "values"] st_best_of [] d_best_of f fd := by
  obtain ⟨f, fd, M, hm⟩ := T.f_best_of
  refine ⟨f, fd, hm, M, fd_den (k := 0) M sc_best_of fun cdv A outer s H E F I0 W g hr tk ow => ?_⟩
  exact s_cons ((by first | exact s_lc (i := 2) (ow := [("value", 3)]) rfl sc_best_of.nd rfl rfl (sw_true rfl rfl rfl (by decide +kernel)) (i_seq (dv 1)) (blkOk_by (N := N_best_of) (sc := defScope st_best_of) (by decide +kernel)) (fun _ _ _ _ _ _ => g_n (i := 3) rfl sc_best_of.nd rfl (by first | exact Or.inl rfl | exact Or.inr rfl)) (fun _ _ _ _ _ _ => tt_one (b_cmp o_nis (dv 3) (d_non) (by first | exact nomark _ | rfl))) (fun _ _ _ _ _ _ => dv 3) (hT := fun _ _ _ h => frz_asg h) | exact s_asg (d_frN (n_lc (ow := [("value", 3)]) rfl sc_best_of.nd (i_seq (dv 1)) (blkOk_by (N := N_best_of) (sc := defScope st_best_of) (by decide +kernel)) (fun _ _ _ _ _ _ => g_n (i := 3) rfl sc_best_of.nd rfl (by first | exact Or.inl rfl | exact Or.inr rfl)) (fun _ _ _ _ _ _ => tt_one (b_cmp o_nis (dv 3) (d_non) (by first | exact nomark _ | rfl))) (fun _ _ _ _ _ _ => dv 3))) (g_n (i := 2) rfl sc_best_of.nd rfl (by first | exact Or.inl rfl | exact Or.inr rfl)))) (s_cons (s_if (b_cmp (o_eq hr.units) (dv 2) (d_lst (a_nil)) (by first | exact nomark _ | rfl)) (s_one (s_ret (d_non))) (s_next)) (s_one (s_ret (d_if (b_cmp (o_eq hr.units) (dv 0) (d_str) (by first | exact nomark _ | rfl)) (d_callB (n_max rfl) rfl T.n_max (by decide +kernel) (a_cons (dv 2) (a_nil))) (d_callB (n_min rfl) rfl T.n_min (by decide +kernel) (a_cons (dv 2) (a_nil)))))))
theorem c_stepped (T : Tx K mg) : ∃ f fd, Cal P w K mg base 2 "stepped" ["side", "rule", "row", "amount"] st_stepped [] d_stepped f fd := by
  obtain ⟨f, fd, M, hm⟩ := T.f_stepped
  obtain ⟨f0, fd0, C0⟩ := c_source_of (P := P) (w := w) (base := base) T
  obtain ⟨f1, fd1, C1⟩ := c_best_of (P := P) (w := w) (base := base) T
  refine ⟨f, fd, hm, M, fd_den (k := 1) M sc_stepped fun cdv A outer s H E F I0 W g hr tk ow => ?_⟩
  exact s_cons (s_asg (d_or2 (d_frN (n_dct (dps_cons (fun _ => d_str) (fun _ => d_int) dps_nil))) (d_frN (n_dc (ow := [("slot", 5), ("content", 6)]) rfl sc_stepped.nd (i_zs rfl T.n_zip (cw_k (a_cons (dgt T.c_REGISTERS) (a_cons (dv 2) (a_nil))) (k_cons (d_bl) (k_nil)))) (blkOk_by (N := N_stepped) (sc := defScope st_stepped) (by decide +kernel)) (fun _ _ _ _ _ _ => g_t rfl (gs_cons (g_n (i := 5) rfl sc_stepped.nd rfl (by first | exact Or.inl rfl | exact Or.inr rfl)) (gs_cons (g_n (i := 6) rfl sc_stepped.nd rfl (by first | exact Or.inl rfl | exact Or.inr rfl)) (gs_nil)))) (fun _ _ _ _ _ _ => tt_yes) (fun _ _ _ _ _ _ => dv 5) (fun _ _ _ _ _ _ => dv 6)))) (g_n (i := 4) rfl sc_stepped.nd rfl (by first | exact Or.inl rfl | exact Or.inr rfl))) (s_cons (s_own (i := 7) sc_stepped.nd rfl (by first | exact Or.inl rfl | exact Or.inr rfl) (n_disp (a_nil))) (s_cons (s_for ow rfl (i_seq (dv 1)) (g_n (i := 8) rfl sc_stepped.nd rfl (by first | exact Or.inl rfl | exact Or.inr rfl)) (s_cons (s_own (i := 9) sc_stepped.nd rfl (by first | exact Or.inl rfl | exact Or.inr rfl) (n_disp (a_nil))) (s_cons (s_for ow rfl (i_seq (d_frN (n_lc (ow := [("term", 12)]) rfl sc_stepped.nd (i_seq (dv 8)) (blkOk_by (N := N_stepped) (sc := defScope st_stepped) (by decide +kernel)) (fun _ _ _ _ _ _ => g_n (i := 12) rfl sc_stepped.nd rfl (by first | exact Or.inl rfl | exact Or.inr rfl)) (fun _ _ _ _ _ _ => tt_yes) (fun _ _ _ _ _ _ => d_call C0.fn g (hr.mono (by decide)) tkN rfl C0.hm C0.made.kp (b_source_of C0.made) .nil (a_cons (dv 12) (a_nil)))))) (g_t rfl (gs_cons (g_n (i := 10) rfl sc_stepped.nd rfl (by first | exact Or.inl rfl | exact Or.inr rfl)) (gs_cons (g_n (i := 11) rfl sc_stepped.nd rfl (by first | exact Or.inl rfl | exact Or.inr rfl)) (gs_nil)))) (s_one (s_if (b_cmp o_nis (d_ixY (dv 4) (dv 10) hr.units) (d_non) (by first | exact nomark _ | rfl)) (s_one (s_expr (d_append (dv 9) (a_cons (d_if (b_tru (dv 11) (fun _ => rfl)) (d_op o_add (d_ixY (dv 4) (dv 10) hr.units) (dv 3)) (d_ixY (dv 4) (dv 10) hr.units)) (a_nil))))) (s_next)))) (s_one (s_expr (d_append (dv 7) (a_cons (d_call C1.fn g (hr.mono (by decide)) tk rfl C1.hm C1.made.kp (b_best_of C1.made) .nil (a_cons (dv 0) (a_cons (dvf 9) (a_nil)))) (a_nil)))))))) (s_one (s_ret (d_callTy n_tup rfl T.n_tuple (by decide +kernel) (a_cons (dv 7) (a_nil)))))))
theorem c_Statistic___getitem__ (T : Tx K mg) : MCal P w K mg base 2 (aM K "Statistic" "__getitem__") "__getitem__" "Statistic.__getitem__" ["self", "kind"] st_Statistic___getitem__ [] d_Statistic___getitem__ := by
  obtain ⟨fd, M⟩ := T.f_Statistic___getitem__
  refine ⟨fd, M, fd_den (k := 1) M sc_Statistic___getitem__ fun cdv A outer s H E F I0 W g hr tk ow => ?_⟩
  exact s_cons (s_if (b_tru (d_callB n_isi rfl T.n_isinstance (by decide +kernel) (a_cons (dv 1) (a_cons (d_ty rfl T.n_str (by decide +kernel)) (a_nil)))) (fun _ => rfl)) (s_one (s_for ow rfl (i_zs rfl T.n_zip (cw_k (a_cons (d_att (dv 0) (al_tatt_kinds T) g (hr.mono (by decide))) (a_cons (d_att (dv 0) (al_tatt_rules T) g (hr.mono (by decide))) (a_nil))) (k_cons (d_bl) (k_nil)))) (g_t rfl (gs_cons (g_n (i := 2) rfl sc_Statistic___getitem__.nd rfl (by first | exact Or.inl rfl | exact Or.inr rfl)) (gs_cons (g_n (i := 3) rfl sc_Statistic___getitem__.nd rfl (by first | exact Or.inl rfl | exact Or.inr rfl)) (gs_nil)))) (s_one (s_if (b_cmp (o_eq hr.units) (dv 2) (dv 1) (by first | exact nomark _ | rfl)) (s_one (s_ret (dv 3))) (s_next))))) (s_next)) (s_one (s_never))
theorem al_tsp___getitem__ (T : Tx K mg) : AllT (fun q => SpOk P w K mg base 2 "__getitem__" q) tsp___getitem__ := by
  have k0 : 2 ≤ 2 := by decide
  exact ⟨⟨_, T.sp_Greatest___getitem__.1, T.sp_Greatest___getitem__.2.1, T.sp_Greatest___getitem__.2.2, (c_Statistic___getitem__ T).co (by decide) (b_Statistic___getitem__)⟩, ⟨⟨_, T.sp_Least___getitem__.1, T.sp_Least___getitem__.2.1, T.sp_Least___getitem__.2.2, (c_Statistic___getitem__ T).co (by decide) (b_Statistic___getitem__)⟩, trivial⟩⟩
theorem c_read_out (T : Tx K mg) : ∃ f fd, Cal P w K mg base 2 "read_out" ["side", "result", "held"] st_read_out [] d_read_out f fd := by
  obtain ⟨f, fd, M, hm⟩ := T.f_read_out
  obtain ⟨f0, fd0, C0⟩ := c_best_of (P := P) (w := w) (base := base) T
  refine ⟨f, fd, hm, M, fd_den (k := 1) M sc_read_out fun cdv A outer s H E F I0 W g hr tk ow => ?_⟩
  exact s_one (s_ret (d_call C0.fn g (hr.mono (by decide)) tk rfl C0.hm C0.made.kp (b_best_of C0.made) .nil (a_cons (dv 0) (a_cons (d_frN (n_lc (ow := [("slot", 3)]) rfl sc_read_out.nd (i_seq (dv 1)) (blkOk_by (N := N_read_out) (sc := defScope st_read_out) (by decide +kernel)) (fun _ _ _ _ _ _ => g_n (i := 3) rfl sc_read_out.nd rfl (by first | exact Or.inl rfl | exact Or.inr rfl)) (fun _ _ _ _ _ _ => tt_yes) (fun _ _ _ _ _ _ => d_ix (dv 2) (d_callTy n_int rfl T.n_int (by decide +kernel) (a_cons (d_sl (dv 3) (o_some (d_int)) (o_none)) (a_nil)))))) (a_nil)))))
theorem c_Statistic___call__ (T : Tx K mg) : MCal P w K mg base 6 (aM K "Statistic" "__call__") "__call__" "Statistic.__call__" ["self", "log"] st_Statistic___call__ [] d_Statistic___call__ := by
  obtain ⟨fd, M⟩ := T.f_Statistic___call__
  obtain ⟨f0, fd0, C0⟩ := c_check_log (P := P) (w := w) (base := base) T
  obtain ⟨dU0_2, rU0_2, bU0_2⟩ := b_check_log_2 C0.made
  have B0_2 : DfR K [] [] dU0_2 ∧ Binds K fd0 ["log", "kinds"] dU0_2 := ⟨⟨rU0_2, fun G I l => rfl⟩, bU0_2⟩
  obtain ⟨f1, fd1, C1⟩ := c_stepped (P := P) (w := w) (base := base) T
  obtain ⟨f3, fd3, C3⟩ := c_read_out (P := P) (w := w) (base := base) T
  refine ⟨fd, M, fd_den (k := 5) M sc_Statistic___call__ fun cdv A outer s H E F I0 W g hr tk ow => ?_⟩
  exact s_cons (s_expr (d_call C0.fn g (hr.mono (by decide)) tk rfl C0.hm C0.made.kp B0_2.2 B0_2.1 (a_cons (dv 1) (a_cons (d_att (dv 0) (al_tatt_kinds T) g (hr.mono (by decide))) (a_nil))))) (s_cons (s_asg (d_att (dv 0) (al_tatt_start T) g (hr.mono (by decide))) (g_n (i := 2) rfl sc_Statistic___call__.nd rfl (by first | exact Or.inl rfl | exact Or.inr rfl))) (s_cons (s_for ow rfl (i_seq (dv 1)) (g_t rfl (gs_cons (g_n (i := 3) rfl sc_Statistic___call__.nd rfl (by first | exact Or.inl rfl | exact Or.inr rfl)) (gs_cons (g_n (i := 4) rfl sc_Statistic___call__.nd rfl (by first | exact Or.inl rfl | exact Or.inr rfl)) (gs_nil)))) (s_one (s_asg (d_call C1.fn g (hr.mono (by decide)) tk rfl C1.hm C1.made.kp (b_stepped C1.made) .nil (a_cons (d_att (dv 0) (al_tatt_SIDE T) g (hr.mono (by decide))) (a_cons (d_ixX (dv 0) (dv 3) (al_tsp___getitem__ T) g (hr.mono (by decide))) (a_cons (dv 2) (a_cons (dv 4) (a_nil)))))) (g_n (i := 2) rfl sc_Statistic___call__.nd rfl (by first | exact Or.inl rfl | exact Or.inr rfl))))) (s_one (s_ret (d_call C3.fn g (hr.mono (by decide)) tk rfl C3.hm C3.made.kp (b_read_out C3.made) .nil (a_cons (d_att (dv 0) (al_tatt_SIDE T) g (hr.mono (by decide))) (a_cons (d_att (dv 0) (al_tatt_ends T) g (hr.mono (by decide))) (a_cons (dv 2) (a_nil)))))))))
theorem al_tinst___call___2 (T : Tx K mg) : AllT (fun q => InOk P w K mg base 6 [] 2 q) tinst___call___2 := by
  have k0 : 6 ≤ 6 := by decide
  exact ⟨⟨_, T.callo_Greatest, (c_Statistic___call__ T).ck (by decide) (kb_Statistic___call___0)⟩, ⟨⟨_, T.callo_Least, (c_Statistic___call__ T).ck (by decide) (kb_Statistic___call___0)⟩, trivial⟩⟩
theorem c__law_right (T : Tx K mg) : ∃ f fd, Cal P w K mg base 9 "_law_right" ["_law_pool_here"] st__law_right [] d__law_right f fd := by
  obtain ⟨f, fd, M, hm⟩ := T.f__law_right
  obtain ⟨f0, fd0, C0⟩ := c__law_great (P := P) (w := w) (base := base) T
  obtain ⟨f1, fd1, C1⟩ := c__law_small (P := P) (w := w) (base := base) T
  obtain ⟨f2, fd2, C2⟩ := c__law_draw (P := P) (w := w) (base := base) T
  obtain ⟨f3, fd3, C3⟩ := c__law_text (P := P) (w := w) (base := base) T
  obtain ⟨f4, fd4, C4⟩ := c__law_of (P := P) (w := w) (base := base) T
  obtain ⟨f8, fd8, C8⟩ := c__law_events (P := P) (w := w) (base := base) T
  obtain ⟨f9, fd9, C9⟩ := c__law_result (P := P) (w := w) (base := base) T
  refine ⟨f, fd, hm, M, fd_den (k := 8) M sc__law_right fun cdv A outer s H E F I0 W g hr tk ow => ?_⟩
  exact s_cons (s_asg (d_ix (d_lst (a_cons (d_call C1.fn g (hr.mono (by decide)) tk rfl C1.hm C1.made.kp (b__law_small C1.made) .nil (a_cons (dv 0) (a_nil))) (a_cons (d_call C0.fn g (hr.mono (by decide)) tk rfl C0.hm C0.made.kp (b__law_great C0.made) .nil (a_cons (dv 0) (a_nil))) (a_nil)))) (d_call C2.fn g (hr.mono (by decide)) tk rfl C2.hm C2.made.kp (b__law_draw C2.made) .nil (a_cons (dv 0) (a_cons (d_int) (a_nil))))) (g_n (i := 1) rfl sc__law_right.nd rfl (by first | exact Or.inl rfl | exact Or.inr rfl))) (s_cons ((by first | exact s_par (i := 2) (j := 3) rfl sc__law_right.nd rfl rfl (by decide) rfl rfl (a_cons (d_call C4.fn g (hr.mono (by decide)) tk rfl C4.hm C4.made.kp (b__law_of C4.made) .nil (a_cons (dv 1) (a_nil))) (a_cons (d_call C3.fn g (hr.mono (by decide)) tk rfl C3.hm C3.made.kp (b__law_text C3.made) .nil (a_cons (dv 1) (a_nil))) (a_nil))) rfl | exact s_asg (d_tup (a_cons (d_call C4.fn g (hr.mono (by decide)) tk rfl C4.hm C4.made.kp (b__law_of C4.made) .nil (a_cons (dv 1) (a_nil))) (a_cons (d_call C3.fn g (hr.mono (by decide)) tk rfl C3.hm C3.made.kp (b__law_text C3.made) .nil (a_cons (dv 1) (a_nil))) (a_nil)))) (g_t rfl (gs_cons (g_n (i := 2) rfl sc__law_right.nd rfl (by first | exact Or.inl rfl | exact Or.inr rfl)) (gs_cons (g_n (i := 3) rfl sc__law_right.nd rfl (by first | exact Or.inl rfl | exact Or.inr rfl)) (gs_nil)))))) (s_cons (s_if (w_pt (w_or (b_cmp (o_neX (al_tsp___eq__ T) T.eqb g (hr.mono (by decide))) (d_callTy (n_strX (al_tsp___str__ T) g (hr.mono (by decide))) rfl T.n_str (by decide +kernel) (a_cons (dv 2) (a_nil))) (dv 3) (by first | exact nomark _ | rfl)) (w_or1 (b_cmp (o_neX (al_tsp___eq__ T) T.eqb g (hr.mono (by decide))) (d_callTy (n_strX (al_tsp___str__ T) g (hr.mono (by decide))) rfl T.n_str (by decide +kernel) (a_cons (dv 2) (a_nil))) (dv 3) (by first | exact nomark _ | rfl))))) (s_one (s_ret (d_bl))) (s_next)) (s_cons (s_asg (d_lst (a_cons (d_sm (dcl T.gc_Statistic) (cw_p (a_cons (dv 3) (a_nil))) (al_tsm_read_1 T) g (hr.mono (by decide)) tk) (a_cons (d_sm (dcl T.gc_Statistic) (cw_k0 (k_cons (dv 3) (k_nil))) (al_tsm_read_0_text T) g (hr.mono (by decide)) tk) (a_cons (d_sm (dcl T.gc_Greatest) (cw_p (a_cons (dv 3) (a_nil))) (al_tsm_read_1 T) g (hr.mono (by decide)) tk) (a_cons (d_sm (dcl T.gc_Least) (cw_p (a_cons (dv 3) (a_nil))) (al_tsm_read_1 T) g (hr.mono (by decide)) tk) (a_nil)))))) (g_n (i := 4) rfl sc__law_right.nd rfl (by first | exact Or.inl rfl | exact Or.inr rfl))) (s_cons (s_asg (d_call C8.fn g (hr.mono (by decide)) tk rfl C8.hm C8.made.kp (b__law_events C8.made) .nil (a_cons (dv 0) (a_cons (dv 1) (a_cons (d_int) (a_cons (d_int) (a_nil)))))) (g_n (i := 5) rfl sc__law_right.nd rfl (by first | exact Or.inl rfl | exact Or.inr rfl))) (s_cons (s_asg (d_callB (n_repr hr.units g) rfl T.n_repr (by decide +kernel) (a_cons (d_lst (a_cons (dv 1) (a_cons (d_call C9.fn g (hr.mono (by decide)) tk rfl C9.hm C9.made.kp (b__law_result C9.made) .nil (a_cons (dv 1) (a_cons (dv 5) (a_nil)))) (a_cons (dv 3) (a_nil))))) (a_nil))) (g_n (i := 6) rfl sc__law_right.nd rfl (by first | exact Or.inl rfl | exact Or.inr rfl))) (s_cons (s_for ow rfl (i_seq (dv 4)) (g_n (i := 7) rfl sc__law_right.nd rfl (by first | exact Or.inl rfl | exact Or.inr rfl)) (s_cons (s_if (w_pt (w_or (b_not (b_cmp (o_eqX (al_tsp___eq__ T) T.eqb g (hr.mono (by decide))) (dv 7) (dv 2) (by first | exact nomark _ | rfl))) (w_or1 (b_cmp (o_neX (al_tsp___eq__ T) T.eqb g (hr.mono (by decide))) (d_callB (n_repr hr.units g) rfl T.n_repr (by decide +kernel) (a_cons (d_lst (a_cons (d_att (dv 7) (al_tatt_plain T) g (hr.mono (by decide))) (a_cons (d_inst (dv 7) (cw_p (a_cons (dv 5) (a_nil))) (al_tinst___call___2 T) g (hr.mono (by decide)) tk) (a_cons (d_callTy (n_strX (al_tsp___str__ T) g (hr.mono (by decide))) rfl T.n_str (by decide +kernel) (a_cons (dv 7) (a_nil))) (a_nil))))) (a_nil))) (dv 6) (by first | exact nomark _ | rfl))))) (s_one (s_ret (d_bl))) (s_next)) (s_cons (s_asg (d_lst (a_cons (d_cmp (o_eqX (al_tsp___eq__ T) T.eqb g (hr.mono (by decide))) (d_ix (dv 1) (d_int)) (d_str) (by first | exact nomark _ | rfl)) (a_cons (d_cmp (o_eqX (al_tsp___eq__ T) T.eqb g (hr.mono (by decide))) (d_ix (dv 1) (d_int)) (d_str) (by first | exact nomark _ | rfl)) (a_nil)))) (g_n (i := 8) rfl sc__law_right.nd rfl (by first | exact Or.inl rfl | exact Or.inr rfl))) (s_one (s_if (b_cmp (o_neX (al_tsp___eq__ T) T.eqb g (hr.mono (by decide))) (d_lst (a_cons (d_callB (n_isiX T.isi) rfl T.n_isinstance (by decide +kernel) (a_cons (dv 7) (a_cons (dcl T.gc_Greatest) (a_nil)))) (a_cons (d_callB (n_isiX T.isi) rfl T.n_isinstance (by decide +kernel) (a_cons (dv 7) (a_cons (dcl T.gc_Least) (a_nil)))) (a_nil)))) (dv 8) (by first | exact nomark _ | rfl)) (s_one (s_ret (d_bl))) (s_next)))))) (s_one (s_ret (d_bl)))))))))
theorem c__law_pool (T : Tx K mg) : ∃ f fd, Cal P w K mg base 1 "_law_pool" ["_law_cell_here"] st__law_pool [] d__law_pool f fd := by
  obtain ⟨f, fd, M, hm⟩ := T.f__law_pool
  refine ⟨f, fd, hm, M, fd_den (k := 0) M sc__law_pool fun cdv A outer s H E F I0 W g hr tk ow => ?_⟩
  exact s_cons (s_asg (d_if (w_pt (w_or (b_cmp o_lt (dv 0) (d_int) (by first | exact nomark _ | rfl)) (w_or1 (b_cmp o_ge (dv 0) (d_op o_pow (d_int) (d_int)) (by first | exact nomark _ | rfl))))) (d_callB n_abs rfl T.n_abs (by decide +kernel) (a_cons (dv 0) (a_nil))) (d_int)) (g_n (i := 1) rfl sc__law_pool.nd rfl (by first | exact Or.inl rfl | exact Or.inr rfl))) (s_one (s_ret (d_lstS (a_cons (d_op o_mod (dv 0) (d_int)) (a_cons (dv 1) (a_cons (d_int) (a_nil)))))))
theorem c__law_cell (T : Tx K mg) : ∃ f fd, Cal P w K mg base 1 "_law_cell" ["_law_cells", "_law_k"] st__law_cell [] d__law_cell f fd := by
  obtain ⟨f, fd, M, hm⟩ := T.f__law_cell
  refine ⟨f, fd, hm, M, fd_den (k := 0) M sc__law_cell fun cdv A outer s H E F I0 W g hr tk ow => ?_⟩
  exact s_cons (s_if (b_cmp o_lt (dv 1) (d_callB n_len rfl T.n_len (by decide +kernel) (a_cons (dv 0) (a_nil))) (by first | exact nomark _ | rfl)) (s_one (s_ret (d_ix (dv 0) (dv 1)))) (s_next)) (s_cons (s_asg (d_op o_mod (d_op o_mul (d_int) (d_op o_add (d_op o_add (d_op o_mul (dv 1) (dv 1)) (d_op o_mul (d_int) (dv 1))) (d_int))) (d_int)) (g_n (i := 2) rfl sc__law_cell.nd rfl (by first | exact Or.inl rfl | exact Or.inr rfl))) (s_cons (s_for ow rfl (i_seq (d_sl (dv 0) (o_none) (o_some (d_int)))) (g_n (i := 3) rfl sc__law_cell.nd rfl (by first | exact Or.inl rfl | exact Or.inr rfl)) (s_one (s_asg (d_op o_mod (d_op o_add (d_op o_mul (dv 2) (d_int)) (dv 3)) (d_int)) (g_n (i := 2) rfl sc__law_cell.nd rfl (by first | exact Or.inl rfl | exact Or.inr rfl))))) (s_one (s_ret (dv 2)))))
theorem c_law (T : Tx K mg) : ∃ f fd, Cal P w K mg base 10 "law" ["_law_cells"] st_law [] d_law f fd := by
  obtain ⟨f, fd, M, hm⟩ := T.f_law
  obtain ⟨f0, fd0, C0⟩ := c__law_terms (P := P) (w := w) (base := base) T
  obtain ⟨f1, fd1, C1⟩ := c__law_text (P := P) (w := w) (base := base) T
  obtain ⟨f2, fd2, C2⟩ := c__law_of (P := P) (w := w) (base := base) T
  obtain ⟨f6, fd6, C6⟩ := c__law_right (P := P) (w := w) (base := base) T
  obtain ⟨f7, fd7, C7⟩ := c__law_pool (P := P) (w := w) (base := base) T
  obtain ⟨f8, fd8, C8⟩ := c__law_cell (P := P) (w := w) (base := base) T
  refine ⟨f, fd, hm, M, fd_den (k := 9) M sc_law fun cdv A outer s H E F I0 W g hr tk ow => ?_⟩
  exact s_cons (s_asg (d_callTy n_tup rfl T.n_tuple (by decide +kernel) (a_cons (d_call C0.fn g (hr.mono (by decide)) tk rfl C0.hm C0.made.kp (b__law_terms C0.made) .nil (a_cons (d_int) (a_nil))) (a_nil))) (g_n (i := 1) rfl sc_law.nd rfl (by first | exact Or.inl rfl | exact Or.inr rfl))) (s_cons (s_asg (d_tup (a_cons (d_str) (a_cons (d_str) (a_cons (d_str) (a_cons (d_str) (a_cons (d_str) (a_cons (d_str) (a_nil)))))))) (g_n (i := 2) rfl sc_law.nd rfl (by first | exact Or.inl rfl | exact Or.inr rfl))) (s_cons (s_asg (d_tup (a_cons (d_str) (a_cons (d_tup (a_cons (d_str) (a_cons (d_str) (a_cons (d_str) (a_cons (d_str) (a_nil)))))) (a_cons (d_op o_mulY (d_tup (a_cons (d_int) (a_cons (d_non) (a_nil)))) (d_int)) (a_cons (d_op o_mulY (d_tup (a_cons (d_op o_mulY (d_tup (a_cons (dv 1) (a_nil))) (d_int)) (a_nil))) (d_int)) (a_cons (dv 2) (a_nil))))))) (g_n (i := 3) rfl sc_law.nd rfl (by first | exact Or.inl rfl | exact Or.inr rfl))) (s_cons (s_asg (d_call C1.fn g (hr.mono (by decide)) tk rfl C1.hm C1.made.kp (b__law_text C1.made) .nil (a_cons (dv 3) (a_nil))) (g_n (i := 4) rfl sc_law.nd rfl (by first | exact Or.inl rfl | exact Or.inr rfl))) (s_cons (s_if (w_pt (w_or (b_cmp (o_ne hr.units) (d_callTy (n_strX (al_tsp___str__ T) g (hr.mono (by decide))) rfl T.n_str (by decide +kernel) (a_cons (d_call C2.fn g (hr.mono (by decide)) tk rfl C2.hm C2.made.kp (b__law_of C2.made) .nil (a_cons (dv 3) (a_nil))) (a_nil))) (dv 4) (by first | exact nomark _ | rfl)) (w_or1 (b_cmp (o_ne hr.units) (d_att (d_sm (dcl T.gc_Statistic) (cw_p (a_cons (dv 4) (a_nil))) (al_tsm_read_1 T) g (hr.mono (by decide)) tk) (al_tatt_plain T) g (hr.mono (by decide))) (dv 3) (by first | exact nomark _ | rfl))))) (s_one (s_ret (d_bl))) (s_next)) (s_one (s_ret (d_callB (n_all rfl) rfl T.n_all (by decide +kernel) (a_cons (d_frN (n_lc (ow := [("_law_k", 5)]) rfl sc_law.nd (i_r1 rfl T.n_range (a_cons (d_callB (n_max rfl) rfl T.n_max (by decide +kernel) (a_cons (d_int) (a_cons (d_callB (n_min rfl) rfl T.n_min (by decide +kernel) (a_cons (d_int) (a_cons (d_callB n_len rfl T.n_len (by decide +kernel) (a_cons (dv 0) (a_nil))) (a_nil)))) (a_nil)))) (a_nil))) (blkOk_by (N := N_law) (sc := defScope st_law) (by decide +kernel)) (fun _ _ _ _ _ _ => g_n (i := 5) rfl sc_law.nd rfl (by first | exact Or.inl rfl | exact Or.inr rfl)) (fun _ _ _ _ _ _ => tt_yes) (fun _ _ _ _ _ _ => d_call C6.fn g (hr.mono (by decide)) tkN rfl C6.hm C6.made.kp (b__law_right C6.made) .nil (a_cons (d_call C7.fn g (hr.mono (by decide)) tkN rfl C7.hm C7.made.kp (b__law_pool C7.made) .nil (a_cons (d_call C8.fn g (hr.mono (by decide)) tkN rfl C8.hm C8.made.kp (b__law_cell C8.made) .nil (a_cons (dv 0) (a_cons (dv 5) (a_nil)))) (a_nil))) (a_nil))))) (a_nil)))))))))
end
end K08
/-! PA: plain lemmas: loops, comprehensions, data. -/
namespace K08
open PySem PySem.Spec L2 D
theorem szN {n : Nat} (h : n ≤ 10000000) : n ≤ sizeLine := by rw [sizeLine_eq]; omega
/-! ### loops -/
theorem for_inv {g : DG} {body : DS} {Dn : DEnds} (V : List P → D.Env → Store → Prop) (ps : List P) : ∀ (post pre : List P) (ρ : D.Env) (S : Store), pre ++ post = ps →
    (∀ pre p post, ps = pre ++ p :: post → ∀ ρ S, V pre ρ S → ∀ D' : DEnds, (∀ ρ' S', V (pre ++ [p]) ρ' S' → D'.nx ρ' S') → (∀ ρ' S', V (pre ++ [p]) ρ' S' → D'.ct ρ' S') → D'.rt = Dn.rt → D'.bk = Dn.nx → g p ρ S (body D')) →
    V pre ρ S → (∀ ρ S, V ps ρ S → Dn.nx ρ S) → forL Tr g body Dn post ρ S
  | [], pre, ρ, S, e, _, h, fin => ⟨trivial, fin _ _ (by rw [← e, List.append_nil]; exact h)⟩
  | p :: post, pre, ρ, S, e, step, h, fin =>
    ⟨trivial, step pre p post e.symm ρ S h { Dn with nx := forL Tr g body Dn post, ct := forL Tr g body Dn post, bk := Dn.nx }
      (fun ρ' S' h' => for_inv V ps post (pre ++ [p]) ρ' S' (by rw [← e]; simp) step h' fin) (fun ρ' S' h' => for_inv V ps post (pre ++ [p]) ρ' S' (by rw [← e]; simp) step h' fin) rfl rfl⟩
theorem comp_gen {g : DG} {tt : DB} {te : DT} {vs : List Nat} {Q : List P → D.Env → Store → Prop} {ρ : D.Env} (V : List P → List P → Store → Prop) (ps : List P) : ∀ (post pre acc : List P) (S : Store), pre ++ post = ps →
    (∀ pre p post, ps = pre ++ p :: post → ∀ acc S, V pre acc S → ∀ K : List P → D.Env → Store → Prop, (∀ acc' ρ' S', V (pre ++ [p]) acc' S' → wipeE ρ' vs = ρ → K acc' ρ' S') →
      g p ρ S fun ρ2 S2 => tt ρ2 S2 fun b ρ3 S3 => if b = true then te ρ3 S3 fun r ρ4 S4 => match r with
        | .v y => K (acc ++ [y]) ρ4 S4
        | .loc _ => False
      else K acc ρ3 S3) → V pre acc S → (∀ acc S, V ps acc S → Q acc ρ S) → compL Tr g tt te vs Q post acc ρ S
  | [], pre, acc, S, e, _, h, fin => ⟨trivial, fin _ _ (by rw [← e, List.append_nil]; exact h)⟩
  | p :: post, pre, acc, S, e, step, h, fin => ⟨trivial, step pre p post e.symm acc S h (fun acc' ρ' S' => compL Tr g tt te vs Q post acc' (wipeE ρ' vs) S') fun acc' ρ' S' h' e' => by
      rw [e']; exact comp_gen V ps post (pre ++ [p]) acc' S' (by rw [← e]; simp) step h' fin⟩
theorem for_i {g : DG} {body : DS} {Dn : DEnds} {ps : List P} {ρ : D.Env} {S : Store} (V : List P → D.Env → Store → Prop)
    (step : ∀ pre p post, ps = pre ++ p :: post → ∀ ρ S, V pre ρ S → ∀ D' : DEnds, (∀ ρ' S', V (pre ++ [p]) ρ' S' → D'.nx ρ' S') → (∀ ρ' S', V (pre ++ [p]) ρ' S' → D'.ct ρ' S') → D'.rt = Dn.rt → D'.bk = Dn.nx → g p ρ S (body D'))
    (h : V [] ρ S) (fin : ∀ ρ S, V ps ρ S → Dn.nx ρ S) : forL Tr g body Dn ps ρ S := for_inv V ps ps [] ρ S rfl step h fin
theorem comp_g {g : DG} {tt : DB} {te : DT} {vs : List Nat} {Q : List P → D.Env → Store → Prop} {ρ : D.Env} {ps : List P} {S : Store} (V : List P → List P → Store → Prop)
    (step : ∀ pre p post, ps = pre ++ p :: post → ∀ acc S, V pre acc S → ∀ K : List P → D.Env → Store → Prop, (∀ acc' ρ' S', V (pre ++ [p]) acc' S' → wipeE ρ' vs = ρ → K acc' ρ' S') →
      g p ρ S fun ρ2 S2 => tt ρ2 S2 fun b ρ3 S3 => if b = true then te ρ3 S3 fun r ρ4 S4 => match r with
        | .v y => K (acc ++ [y]) ρ4 S4
        | .loc _ => False
      else K acc ρ3 S3) (h : V [] [] S) (fin : ∀ acc S, V ps acc S → Q acc ρ S) : compL Tr g tt te vs Q ps [] ρ S := comp_gen V ps ps [] [] S rfl step h fin
/-- a comprehension that changes nothing -/
theorem comp_map {g : DG} {te : DT} {vs : List Nat} {Q : List P → D.Env → Store → Prop} {ρ : D.Env} {S : Store} (f : P → P) : ∀ (ps acc : List P), (∀ p ∈ ps, ∀ K : P → D.Env → Store → Prop, (∀ ρ', wipeE ρ' vs = ρ → K (f p) ρ' S) → g p ρ S fun ρ2 S2 => te ρ2 S2 fun r ρ4 S4 => match r with
      | .v y => K y ρ4 S4
      | .loc _ => False) → Q (acc ++ ps.map f) ρ S → compL Tr g BYes te vs Q ps acc ρ S
  | [], acc, _, h => ⟨trivial, by simpa using h⟩
  | p :: ps, acc, hp, h => by
    refine ⟨trivial, hp p (List.mem_cons_self ..) (fun y ρ4 S4 => compL Tr g BYes te vs Q ps (acc ++ [y]) (wipeE ρ4 vs) S4) fun ρ' e => ?_⟩
    rw [e]
    exact comp_map f ps (acc ++ [f p]) (fun q hq => hp q (List.mem_cons_of_mem _ hq)) (by simpa using h)
/-- .. with a test, changing nothing -/
theorem comp_flt {g : DG} {tt : DB} {te : DT} {vs : List Nat} {Q : List P → D.Env → Store → Prop} {ρ : D.Env} {S : Store} (c : P → Bool) (f : P → P) : ∀ (ps acc : List P), (∀ p ∈ ps, ∀ K : Option P → D.Env → Store → Prop, (∀ ρ', wipeE ρ' vs = ρ → K (if c p = true then some (f p) else none) ρ' S) → g p ρ S fun ρ2 S2 => tt ρ2 S2 fun b ρ3 S3 => if b = true then te ρ3 S3 fun r ρ4 S4 => match r with
        | .v y => K (some y) ρ4 S4
        | .loc _ => False
      else K none ρ3 S3) → Q (acc ++ (ps.filter c).map f) ρ S → compL Tr g tt te vs Q ps acc ρ S
  | [], acc, _, h => ⟨trivial, by simpa using h⟩
  | p :: ps, acc, hp, h => by
    refine ⟨trivial, hp p (List.mem_cons_self ..) (fun y ρ4 S4 => match y with
      | some y => compL Tr g tt te vs Q ps (acc ++ [y]) (wipeE ρ4 vs) S4
      | none => compL Tr g tt te vs Q ps acc (wipeE ρ4 vs) S4) fun ρ' e => ?_⟩
    cases hc : c p with
    | true => simp only [if_true, e]; exact comp_flt c f ps (acc ++ [f p]) (fun q hq => hp q (List.mem_cons_of_mem _ hq)) (by simpa [hc] using h)
    | false => simp only [Bool.false_eq_true, if_false, e]; exact comp_flt c f ps acc (fun q hq => hp q (List.mem_cons_of_mem _ hq)) (by simpa [hc] using h)
theorem seq_do {t u : DS} {Dn : DEnds} {ρ : D.Env} {S : Store} (h : t { Dn with nx := u Dn } ρ S) : SSeq t u Dn ρ S := h
theorem asg_do {T : DT} {g : DG} {Dn : DEnds} {ρ : D.Env} {S : Store} (h : T ρ S fun r ρ1 S1 => match r with
    | .v p => g p ρ1 S1 Dn.nx
    | .loc _ => False) : SAsg T g Dn ρ S := h
theorem t2_do {op : R → R → D.Env → Store → K1 → Prop} {Ta Tb : DT} {ρ : D.Env} {S : Store} {Q : DQ} (h : Ta ρ S fun a ρ1 S1 => Tb ρ1 S1 fun b ρ2 S2 => op a b ρ2 S2 fun z => Q (.v z) ρ2 S2) : T2 op Ta Tb ρ S Q := h
theorem lst2_do {a b : DT} {ρ : D.Env} {S : Store} {Q : DQ} (h : a ρ S fun r ρ1 S1 => b ρ1 S1 fun q ρ2 S2 => match vals [r, q] with
    | some ps => ps.length ≤ sizeLine ∧ Q (.v (.lst ps)) ρ2 S2
    | none => False) : TLst (ACons a (ACons b ANil)) ρ S Q := h
theorem tup2_do {a b : DT} {ρ : D.Env} {S : Store} {Q : DQ} (h : a ρ S fun r ρ1 S1 => b ρ1 S1 fun q ρ2 S2 => match vals [r, q] with
    | some ps => ps.length ≤ sizeLine ∧ Q (.v (.tup ps)) ρ2 S2
    | none => False) : TTup (ACons a (ACons b ANil)) ρ S Q := h
theorem t2b_do {op : R → R → D.Env → Store → K1 → Prop} {Ta Tb : DT} {ρ : D.Env} {S : Store} {Q : Bool → D.Env → Store → Prop} (h : Ta ρ S fun a ρ1 S1 => Tb ρ1 S1 fun b ρ2 S2 => op a b ρ2 S2 fun z => match (R.v z) with
    | .v (.bl c) => Q c ρ2 S2
    | _ => False) : B2 op Ta Tb ρ S Q := h
/-! ### data -/
abbrev strL (xs : List Str) : List P := xs.map P.str
theorem eqP_int (i j : Int) : eqP (.int i) (.int j) = decide (i = j) := by
  simp only [eqP, P.dat, PyData.eqv]; exact rfl
theorem eqOk_int (i j : Int) : eqOk (.int i) (.int j) = true := by rfl
theorem eqP_str (s t : Str) : eqP (.str s) (.str t) = decide (s = t) := by
  simp only [eqP, P.dat, PyData.eqv]; exact (Bool.beq_eq_decide_eq s t)
theorem eqOk_str (s t : Str) : eqOk (.str s) (.str t) = true := by rfl
theorem isEs_strL : ∀ xs : List Str, P.isEs (strL xs) = true
  | [] => rfl
  | x :: xs => by show (P.isE (.str x) && P.isEs (strL xs)) = true; rw [isEs_strL xs]; rfl
theorem memP_strL (s : Str) (xs : List Str) : memP (.str s) (strL xs) = decide (s ∈ xs) := by
  unfold memP
  induction xs with
  | nil => simp
  | cons x xs ih =>
    show (eqP (.str x) (.str s) || (strL xs).any fun q => eqP q (P.str s)) = _
    rw [ih, eqP_str]
    rw [Bool.eq_iff_iff]
    simp only [Bool.or_eq_true, decide_eq_true_eq, List.mem_cons]
    exact ⟨fun h => h.imp Eq.symm id, fun h => h.imp Eq.symm id⟩
theorem bls_map {α : Type} (f : α → P) (c : α → Bool) (h : ∀ a, f a = .bl (c a)) : ∀ xs : List α, bls (xs.map f) = some (xs.map c)
  | [] => rfl
  | x :: xs => by rw [List.map_cons, List.map_cons, h, bls, bls_map f c h xs]; rfl
theorem bls_true : ∀ xs : List P, (∀ y ∈ xs, y = .bl true) → ∃ bs, bls xs = some bs ∧ bs.all id = true
  | [], _ => ⟨[], rfl, rfl⟩
  | p :: ps, h => by
    obtain ⟨bs, e, ha⟩ := bls_true ps fun y hy => h y (List.mem_cons_of_mem _ hy)
    rw [h p (List.mem_cons_self ..)]
    exact ⟨true :: bs, by rw [bls, e]; rfl, by simpa using ha⟩
theorem cutHi {α : Type} (xs : List α) {i : Int} (h : 0 ≤ i) : cut xs none (some i) = xs.take i.toNat := by
  have e1 : HT.sIx xs.length 0 none = 0 := rfl
  have e2 : HT.sIx xs.length xs.length (some i) = min i.toNat xs.length := by
    show (if i < 0 then (i + (xs.length : Int)).toNat else min i.toNat xs.length) = _
    rw [if_neg (by omega)]
  unfold cut
  rw [e1, e2, List.drop_zero, Nat.sub_zero]
  by_cases c : i.toNat ≤ xs.length
  · rw [Nat.min_eq_left c]
  · rw [Nat.min_eq_right (by omega), List.take_length, List.take_of_length_le (by omega)]
theorem cutLo {α : Type} (xs : List α) {i : Int} (h : 0 ≤ i) : cut xs (some i) none = xs.drop i.toNat := by
  have e1 : HT.sIx xs.length 0 (some i) = min i.toNat xs.length := by
    show (if i < 0 then (i + (xs.length : Int)).toNat else min i.toNat xs.length) = _
    rw [if_neg (by omega)]
  have e2 : HT.sIx xs.length xs.length none = xs.length := rfl
  unfold cut
  rw [e1, e2]
  by_cases c : i.toNat ≤ xs.length
  · rw [Nat.min_eq_left c, List.take_of_length_le (by rw [List.length_drop] <;> omega)]
  · rw [Nat.min_eq_right (by omega), List.drop_length, List.drop_eq_nil_of_le (by omega), Nat.sub_self, List.take_zero]
theorem cutMap {α β : Type} (f : α → β) (xs : List α) (lo hi : Option Int) : cut (xs.map f) lo hi = (cut xs lo hi).map f := by
  unfold cut; rw [List.length_map, List.map_take, List.map_drop]
theorem atNat {α : Type} {xs : List α} {i : Int} (h0 : 0 ≤ i) (h1 : i < xs.length) : atI xs i = some (xs[i.toNat]'(by omega)) := by
  unfold atI ixN
  rw [if_pos h0, if_pos h1]
  simp [show i.toNat < xs.length by omega]
theorem atIn {α : Type} {xs : List α} {i : Int} (h0 : 0 ≤ i) (h1 : i < xs.length) : ∃ p, atI xs i = some p ∧ p ∈ xs := ⟨_, atNat h0 h1, List.getElem_mem _⟩
theorem valsApp : ∀ (ps : List P) (rs : List R), vals (ps.map R.v ++ rs) = (vals rs).map (ps ++ ·)
  | [], rs => by simp
  | p :: ps, rs => by
    rw [List.map_cons, List.cons_append, vals, valsApp ps rs, Option.map_map]; rfl
theorem truD_bl {ρ : D.Env} {S : Store} (b : Bool) : truD ρ S (.v (.bl b)) = some b := rfl
/-! ### what is drawn -/
def PoolAt (S : Store) (a : Addr) : Prop := ∃ x y z : Int, S a = some (.lst [.int x, .int y, .int z]) ∧ 0 ≤ x ∧ x < 2147483179 ∧ 0 ≤ y
theorem s_draw {a : Addr} {m : Int} {S : Store} {Q : P → Store → Prop} {E : DX} (hS : PoolAt S a) (h0 : 0 < m) (h1 : m < 2 ^ 120) (h : ∀ r S', 0 ≤ r → r < m → PoolAt S' a → Q (.int r) S') : d__law_draw [.ref a, .int m] S Q E := by
  obtain ⟨x, y, z, e, x0, x1, y0⟩ := hS
  refine ⟨rfl, ?_⟩
  have m1 : ∀ i : Int, i % 2147483179 < 2147483179 := fun i => Int.emod_lt_of_pos i (by decide)
  have m0 : ∀ i : Int, 0 ≤ i % 2147483179 := fun i => Int.emod_nonneg i (by decide)
  have c1 : ∀ j : Int, mulOk x j := fun j => .inl (.inl ⟨by omega, by omega⟩)
  have c2 : ∀ j : Int, mulOk 70001 j := fun j => .inl (.inl ⟨by decide, by decide⟩)
  have c3 : ∀ i : Int, CDivW i 64 := fun i => ⟨by decide, by decide⟩
  have lg : m.natAbs.log2 < 9000 := by
    have : m.natAbs < 2 ^ 120 := by omega
    have := (Nat.log2_lt (n := m.natAbs) (by omega)).mpr this
    omega
  have c4 : ∀ i : Int, CDivW i m := fun i => ⟨h0, lg⟩
  simp [T__law_draw, SSeq, SAsg, T2, TV, TC, ixD, asQ, asL, e, atI, ixN, addD, startE, N__law_draw, GS, setD, ups_same, ups_ups, GN, ii, mulD, c1, c2, SIf, B2, ordD]
  by_cases hy : 0 < y
  · simp [hy, TCall, ACons, ANil, TV, TC, T2, ixD, asQ, asL, ups_same, ups_ups, atI, ixN, divmodD, c4, GT, GCons, GNil, GS, GN, setD, SRet]
    exact h _ _ (Int.emod_nonneg _ (by omega)) (Int.emod_lt_of_pos _ h0) ⟨_, _, _, ups_same, m0 _, m1 _, Int.ediv_nonneg y0 (by omega)⟩
  · simp [hy, SNext, SRet, T2, TV, TC, ixD, asQ, asL, ups_same, atI, ixN, c3, ii, h0, c4]
    exact h _ _ (Int.emod_nonneg _ (by omega)) (Int.emod_lt_of_pos _ h0) ⟨_, _, _, ups_same, m0 _, m1 _, y0⟩
theorem s_pool {c : Int} {S : Store} {Q : P → Store → Prop} {E : DX} (h : ∀ a S', PoolAt S' a → Q (.ref a) S') : d__law_pool [.int c] S Q E := by
  refine ⟨rfl, ?_⟩
  have m1 : ∀ i : Int, i % 2147483179 < 2147483179 := fun i => Int.emod_lt_of_pos i (by decide)
  have m0 : ∀ i : Int, 0 ≤ i % 2147483179 := fun i => Int.emod_nonneg i (by decide)
  simp [T__law_pool, SSeq, SAsg, TIf, BOr, B2, T2, TV, TC, ordD, startE, N__law_pool, ii, CPow, GN, SRet, TLstS, ACons, ANil, vals]
  have fin : ∀ d : Int, 0 ≤ d → (3 ≤ sizeLine ∧ ∀ a, S a = none → Q (.ref a) (ups S a (.lst [.int (c % 2147483179), .int d, .int 0]))) := fun d hd => ⟨by decide, fun a _ => h a _ ⟨_, _, _, ups_same, m0 _, m1 _, hd⟩⟩
  by_cases h1 : c < 0
  · simp [h1, TCall, ACons, TV, ANil, absD, T2, TC, ii, vals]
    exact fin _ (by omega)
  · by_cases h2 : 1000000000000000000 ≤ c
    · simp [h1, h2, TCall, ACons, TV, ANil, absD, T2, TC, ii, vals]
      exact fin _ (by omega)
    · simp [h1, h2, TC, T2, TV, ii, vals, ACons, ANil]
      exact fin 0 (by decide)
theorem cell_loop {S : Store} {Dn : DEnds} {p : P} {k : Int} : ∀ (ns : List Int) (z : Int) (b : Sl), (∀ z b, Dn.nx [.v p, .v (.int k), .v (.int z), b] S) →
    forL Tr (GN 3) (SAsg (T2 modD (T2 addD (T2 mulD (TV 2) (TC (P.int 42019))) (TV 3)) (TC (P.int 2147483179))) (GN 2)) Dn (ns.map P.int) [.v p, .v (.int k), .v (.int z), b] S
  | [], z, b, h => ⟨trivial, h z b⟩
  | n :: ns, z, b, h => by
    refine ⟨trivial, ?_⟩
    have c2 : ∀ i : Int, mulOk i 42019 := fun j => .inl (.inr ⟨by decide, by decide⟩)
    simp [GN, SAsg, T2, TV, TC, mulD, c2, addD, ii]
    exact cell_loop ns _ _ h
theorem s_cell {ns : List Int} {k : Int} {S : Store} {Q : P → Store → Prop} {E : DX} (h0 : 0 ≤ k) (hk : k < 100) (h : ∀ c, Q (.int c) S) : d__law_cell [.scr (ns.map .int), .int k] S Q E := by
  refine ⟨rfl, ?_⟩
  have c1 : mulOk k k := .inl (.inl ⟨by omega, by omega⟩)
  have c2 : ∀ j : Int, mulOk 7 j := fun j => .inl (.inl ⟨by decide, by decide⟩)
  have c3 : ∀ j : Int, mulOk 70009 j := fun j => .inl (.inl ⟨by decide, by decide⟩)
  simp [T__law_cell, SSeq, SIf, B2, T2, TV, TC, TCall, ACons, ANil, lenD, asQ, asL, ordD, startE, N__law_cell]
  by_cases hl : k < ns.length
  · simp [hl, SRet, T2, TV, ixD, asQ, asL]
    have e : atI (ns.map P.int) k = some (.int (ns[k.toNat]'(by omega))) := by
      unfold atI ixN
      rw [List.length_map, if_pos h0, if_pos hl]
      simp [show k.toNat < ns.length by omega]
    rw [e]
    exact h _
  · simp [hl, SSeq, SNext, SAsg, T2, TV, TC, mulD, c1, c2, c3, addD, ii, GN, SFor, ISeq, TSl, ONo, OPart, slD, asL, asI, cutMap]
    exact cell_loop _ _ _ fun z b => by simpa [SRet, TV] using h z
theorem tv_do {i : Nat} {p : P} {ρ : D.Env} {S : Store} (h : ρ[i]? = some (.v p)) (K : DQ) (k : K (.v p) ρ S) : TV i ρ S K := by
  simp only [TV, h]
  exact k
end K08
/-! PB: kinds, terms, the parts of a statistic. -/
namespace K08
open PySem PySem.Spec L2 D
def LET : Str := "abcdefghijklmnopqrstuvwxyz"
def isKindS (s : Str) : Bool := decide (1 ≤ (s.length : Int)) && decide ((s.length : Int) ≤ 8) && (s.cps.toList.all fun c => subS ⟨#[c]⟩ LET)
theorem bls_signs (x : Str) : bls ((signsP x).map fun p => match p with | .str c => P.bl (subS c LET) | p => p) = some (x.cps.toList.map fun c => subS ⟨#[c]⟩ LET) := by
  unfold signsP
  induction x.cps.toList with
  | nil => rfl
  | cons c r ih => rw [List.map_cons, List.map_cons, List.map_cons, bls, ih]; rfl
theorem s_is_kind {s : Str} {S : Store} {Q : P → Store → Prop} {E : DX} (h : Q (.bl (isKindS s)) S) : d_is_kind [.str s] S Q E := by
  refine ⟨rfl, ?_⟩
  simp [T_is_kind, SRet, TAnd, TCall, ACons, ANil, TV, TC, TNot, isiD, tyN, isB, isKnown, truD, startE, N_is_kind, asL0, TCh, ordD, lenD]
  cases h1 : decide (1 ≤ (s.length : Int)) with
  | false => simp [isKindS, h1] at h; exact h
  | true =>
    cases h2 : decide ((s.length : Int) ≤ 8) with
    | false => simp [isKindS, h1, h2] at h; exact h
    | true =>
      have hl : (signsP s).length ≤ sizeLine := by
        have := of_decide_eq_true h2
        have e : (signsP s).length = s.length := by simp [signsP, Str.length]
        rw [e]
        exact Nat.le_trans (show s.length ≤ 8 by omega) (by decide)
      refine ⟨hl, ?_⟩
      refine comp_map (fun p => match p with | .str c => P.bl (subS c LET) | p => p) _ _ (fun p hp K k => ?_) ?_
      · obtain ⟨c, _, rfl⟩ := List.mem_map.mp hp
        exact k [Sl.v (.str s), Sl.v (.str ⟨#[c]⟩)] rfl
      · simp [isKindS, h1, h2] at h
        show allD [.v (.lst ([] ++ (signsP s).map _))] _ _ _
        unfold allD
        simp only [List.nil_append, asL, Option.bind_some, bls_signs]
        simpa using h
theorem s_is_integer {i : Int} {S : Store} {Q : P → Store → Prop} {E : DX} (h : Q (.bl true) S) : d_is_integer [.int i] S Q E := by
  refine ⟨rfl, ?_⟩
  simpa [T_is_integer, SRet, TAnd, TCall, ACons, ANil, TV, TC, TNot, isiD, tyN, isB, isKnown, truD, startE, N_is_integer, asL0] using h
/-! ### elements in order -/
abbrev Asc (xs : List Str) : Prop := xs.Pairwise fun a b => ltS a b = true
/-- what a list or tuple of texts is -/
inductive TxL : P → List Str → Prop
  | l (xs : List Str) : TxL (.lst (strL xs)) xs
  | t (xs : List Str) : TxL (.tup (strL xs)) xs
theorem enumP_get {ps pre post : List P} {p : P} {k : Int} (h : enumP k ps = pre ++ p :: post) : ∃ q, ps[pre.length]? = some q ∧ p = .row [.int (k + pre.length), q] := by
  have e : (enumP k ps)[pre.length]? = some p := by rw [h]; simp
  unfold enumP at e
  rw [List.getElem?_mapIdx] at e
  obtain ⟨q, hq, rfl⟩ := Option.map_eq_some_iff.mp e
  exact ⟨q, hq, rfl⟩
theorem s_first_fall {xs ks : List Str} {known : P} {S : Store} {Q : P → Store → Prop} {E : DX} (hk : TxL known ks) (hm : ∀ x ∈ xs, x ∈ ks) (ha : Asc xs) (h : Q .non S) : d_first_fall [.tup (strL xs), known] S Q E := by
  refine ⟨rfl, ?_⟩
  refine seq_do ?_
  simp only [SFor, IEn, ACons, ANil, TV, startE, N_first_fall, asI]
  refine for_i (fun pre ρ S' => S' = S ∧ ∃ a b, ρ = [.v (.tup (strL xs)), .v known, a, b]) (fun pre p post e ρ S' ⟨hS, a, b, hρ⟩ D' h1 h2 h3 h4 => ?_) ⟨rfl, _, _, rfl⟩ fun ρ S' ⟨hS, a, b, hρ⟩ => ?_
  · subst hS hρ
    obtain ⟨q, hq, rfl⟩ := enumP_get e
    rw [List.getElem?_map] at hq
    obtain ⟨x, hx, rfl⟩ := Option.map_eq_some_iff.mp hq
    have xm : x ∈ xs := List.mem_of_getElem? hx
    have xk : x ∈ ks := hm x xm
    have fin : D'.nx [.v (.tup (strL xs)), .v known, .v (.int (pre.length : Int)), .v (.str x)] S' := h1 _ _ ⟨rfl, _, _, rfl⟩
    have inn : ∀ (ρ : D.Env) (k : K1), k (.bl false) → ninD (.v (.str x)) (.v known) ρ S' k := by
      intro ρ k hk'
      cases hk with
      | l => simp only [ninD, asD, asQ, asL]; exact ⟨rfl, isEs_strL _, Nat.zero_le _, by rw [memP_strL, decide_eq_true xk]; exact hk'⟩
      | t => simp only [ninD, asD, asQ, asL]; exact ⟨rfl, isEs_strL _, Nat.zero_le _, by rw [memP_strL, decide_eq_true xk]; exact hk'⟩
    simp [GT, GCons, GNil, GN, SIf, BOr, BNot, BTru, TCall, ACons, ANil, TV, TC, isiD, isKnown, tyN, isB, truD, B2, T2]
    refine inn _ _ ?_
    by_cases c : pre.length = 0
    · simp [BAnd, B2, T2, TV, TC, ordD, c, SNext]
      simpa [c] using fin
    · have hlt : pre.length < xs.length := (List.getElem?_eq_some_iff.mp hx).1
      have h0 : (0 : Int) < pre.length := by omega
      have e1 : atI (strL xs) ((pre.length : Int) - 1) = some (.str (xs[pre.length - 1]'(by omega))) := by
        rw [atNat (by omega) (by simp; omega)]
        simp
      have lt : ltS (xs[pre.length - 1]'(by omega)) x = true := by
        have := List.pairwise_iff_getElem.mp ha (pre.length - 1) pre.length (by omega) hlt (by omega)
        rw [(List.getElem?_eq_some_iff.mp hx).2] at this
        exact this
      simp [BAnd, B2, T2, TV, TC, ordD, h0, ixD, asQ, ii, e1, lt, SNext]
      exact fin
  · subst hS hρ
    simpa [SRet, TC] using h

theorem s_check_kinds {ks : List Str} {S : Store} {Q : P → Store → Prop} {E : DX} (h1 : 1 ≤ ks.length) (h4 : ks.length ≤ 4) (hk : ∀ k ∈ ks, isKindS k = true) (ha : Asc ks) (h : Q .non S) : d_check_kinds [.tup (strL ks)] S Q E := by
  refine ⟨rfl, ?_⟩
  have i1 : (1 : Int) ≤ ks.length := by omega
  have i4 : (ks.length : Int) ≤ 4 := by omega
  simp [T_check_kinds, SSeq, SIf, SAsg, SRet, SNext, SExpr, SOwn, BOr, BAnd, BNot, BTru, B2, BCh, TAnd, TOr, TNot, TIf, TCh, TCall, TCl, ACons, ANil, vals, TV, TC, TF, T1, T2, TTup, TLst, TFz, NLst, GN, GT, GCons, GNil, truD, startE, isiD, tyN, isB, isKnown, asL0, asL, asQ, lenD, ordD, N_check_kinds, i1, i4, NLc, ISeq, asI]
  refine ⟨szN (by omega), ?_⟩
  refine comp_flt (fun _ => true) id _ _ (fun p hp K k => ?_) ?_
  · obtain ⟨x, hx, rfl⟩ := List.mem_map.mp hp
    simp [BTru, TCl, ACons, ANil, TV, vals]
    refine s_is_kind ?_
    rw [hk x hx]
    exact k _ rfl
  · rw [List.nil_append, List.map_id, List.filter_eq_self.mpr (fun _ _ => rfl)]
    simp only [frzO]
    refine s_first_fall (TxL.l ks) (fun x hx => hx) ha ?_
    simp [nisD, _root_.D.isNon]
    exact h
/-- what a register starts with -/
abbrev oiP : Option Int → P
  | none => .non
  | some i => .int i
abbrev oiL (xs : List (Option Int)) : List P := xs.map oiP
theorem s_check_start {st : List (Option Int)} {S : Store} {Q : P → Store → Prop} {E : DX} (h1 : 1 ≤ st.length) (h6 : st.length ≤ 6) (hs : ∀ x ∈ st, x = none ∨ x = some 0) (h : Q .non S) : d_check_start [.tup (oiL st)] S Q E := by
  refine ⟨rfl, ?_⟩
  have i1 : (1 : Int) ≤ st.length := by omega
  have i6 : (st.length : Int) ≤ 6 := by omega
  simp [T_check_start, SSeq, SIf, SAsg, SRet, SNext, SExpr, SOwn, BOr, BAnd, BNot, BTru, B2, BCh, TAnd, TOr, TNot, TIf, TCh, TCall, TCl, ACons, ANil, vals, TV, TC, TF, T1, T2, TTup, TLst, TFz, NLst, GN, GT, GCons, GNil, truD, startE, isiD, tyN, isB, isKnown, asL0, asL, asQ, lenD, ordD, N_check_start, i1, i6, SFor, IEn, asI]
  refine for_i (fun pre ρ S' => S' = S ∧ ∃ a b, ρ = [.v (.tup (oiL st)), a, b]) (fun pre p post e ρ S' ⟨hS, a, b, hρ⟩ D' h1 h2 h3 h4 => ?_) ⟨rfl, _, _, rfl⟩ fun ρ S' ⟨hS, a, b, hρ⟩ => ?_
  · subst hS hρ
    obtain ⟨q, hq, rfl⟩ := enumP_get e
    rw [List.getElem?_map] at hq
    obtain ⟨x, hx, rfl⟩ := Option.map_eq_some_iff.mp hq
    have fin : D'.nx [.v (.tup (oiL st)), .v (.int (pre.length : Int)), .v (oiP x)] S' := h1 _ _ ⟨rfl, _, _, rfl⟩
    rcases hs x (List.mem_of_getElem? hx) with rfl | rfl
    · simp [SSeq, SIf, SAsg, SRet, SNext, SExpr, SOwn, BOr, BAnd, BNot, BTru, B2, BCh, TAnd, TOr, TNot, TIf, TCh, TCall, TCl, ACons, ANil, vals, TV, TC, TF, T1, T2, TTup, TLst, TFz, NLst, GN, GT, GCons, GNil, truD, startE, isiD, tyN, isB, isKnown, asL0, asL, asQ, lenD, ordD, nisD, _root_.D.isNon]
      exact fin
    · simp [SSeq, SIf, SAsg, SRet, SNext, SExpr, SOwn, BOr, BAnd, BNot, BTru, B2, BCh, TAnd, TOr, TNot, TIf, TCh, TCall, TCl, ACons, ANil, vals, TV, TC, TF, T1, T2, TTup, TLst, TFz, NLst, GN, GT, GCons, GNil, truD, startE, isiD, tyN, isB, isKnown, asL0, asL, asQ, lenD, ordD, nisD, _root_.D.isNon]
      refine s_is_integer ?_
      simp [truD, neD, asD, eqOk_int, eqP_int]
      exact fin
  · subst hS
    exact h
/-! ### terms -/
def slots : List Str := ["r0", "r1", "r2", "r3", "r4", "r5"]
def withX (s : Str) : Str := s ++ ("+x" : Str)
/-- the terms of n registers, in order -/
def twos (xs : List Str) : List Str := xs.flatMap fun s => [s, withX s]
theorem twos_app (a b : List Str) : twos (a ++ b) = twos a ++ twos b := List.flatMap_append
theorem twos_len : ∀ ys : List Str, (twos ys).length = 2 * ys.length
  | [] => rfl
  | y :: ys => by show ([y, withX y] ++ twos ys).length = _; rw [List.length_append, twos_len ys]; simp; omega
theorem valsStr (xs : List Str) (rs : List R) : vals (xs.map (R.v ∘ P.str) ++ rs) = (vals rs).map (strL xs ++ ·) := by
  rw [← valsApp, List.map_map]
def known (n : Nat) : List Str := (("0" : Str) :: twos (slots.take n)) ++ [("x" : Str)]
def pwB : List Str → Bool
  | [] => true
  | a :: l => l.all (ltS a ·) && pwB l
theorem known_asc (n : Nat) (h : n ≤ 6) : Asc (known n) := by
  have p : ∀ l : List Str, pwB l = true → Asc l := fun l => by
    induction l with
    | nil => exact fun _ => .nil
    | cons a l ih =>
      intro h
      have h' : (l.all (ltS a ·) && pwB l) = true := h
      rw [Bool.and_eq_true] at h'
      exact .cons (List.all_eq_true.mp h'.1) (ih h'.2)
  have : ∀ n, n < 7 → pwB (known n) = true := by decide +kernel
  exact p _ (this n (by omega))
theorem s_terms_of {n : Nat} {S : Store} {Q : P → Store → Prop} {E : DX} (hn : n ≤ 6) (h : Q (.lst (strL (known n))) S) : d_terms_of [.int n] S Q E := by
  refine ⟨rfl, ?_⟩
  refine seq_do ?_
  simp only [SOwn, NLst, ACons, ANil, TC, vals, Option.map_some, startE, N_terms_of]
  refine ⟨szN (by decide), ?_⟩
  refine seq_do ?_
  have e0 : cut ([.str "r0", .str "r1", .str "r2", .str "r3", .str "r4", .str "r5"] : List P) none (some (n : Int)) = strL (slots.take n) := by
    rw [cutHi _ (by omega)]
    show (strL slots).take n = _
    exact (List.map_take).symm
  simp only [SFor, ISeq, TSl, TC, TV, ONo, OPart, slD, asI, List.map_cons, List.map_nil, List.set_cons_succ, List.set_cons_zero, List.length_cons, List.length_nil, List.replicate, List.cons_append, List.nil_append, List.getElem?_cons_zero]
  rw [e0]
  refine for_i (fun pre ρ S' => S' = S ∧ ∃ a, ρ = [.v (.int n), .own (.lst (strL (("0" : Str) :: twos ((slots.take n).take pre.length)))), a]) (fun pre p post e ρ S' ⟨hS, a, hρ⟩ D' h1 h2 h3 h4 => ?_) ⟨rfl, _, rfl⟩ fun ρ S' ⟨hS, a, hρ⟩ => ?_
  · subst hS hρ
    have hp : (strL (slots.take n))[pre.length]? = some p := by rw [e]; simp
    rw [List.getElem?_map] at hp
    obtain ⟨x, hx, rfl⟩ := Option.map_eq_some_iff.mp hp
    have hl : ((slots.take n).take (pre.length + 1)) = (slots.take n).take pre.length ++ [x] := by
      rw [List.take_succ, hx]; rfl
    have hlen : (twos ((slots.take n).take pre.length)).length ≤ 12 := by
      rw [twos_len, List.length_take, List.length_take]
      have : slots.length = 6 := rfl
      omega
    have hxl : x.length = 2 := by
      have := List.mem_of_mem_take (List.mem_of_getElem? hx)
      simp [slots] at this
      rcases this with rfl | rfl | rfl | rfl | rfl | rfl <;> rfl
    simp [GN, SExpr, TM, TV, asL0, tyL, ACons, ANil, TLst, T2, TC, addD, vals, extD, wrL]
    have h2 : ("+x" : Str).length = 2 := rfl
    refine ⟨szN (by omega), szN (by decide), szN (by omega), ?_⟩
    · refine h1 _ _ ⟨rfl, .v (.str x), ?_⟩
      rw [List.length_append]
      simp [hl, twos_app]
      rfl
  · subst hS hρ
    have e2 : (slots.take n).take (strL (slots.take n)).length = slots.take n := by rw [List.length_map, List.take_length]
    rw [e2]
    simp [SRet, TLst, AStar, ACons, ANil, TV, TC, asQ, asL, valsApp, valsStr, vals]
    refine ⟨szN ?_, ?_⟩
    · rw [twos_len, List.length_take]
      have : slots.length = 6 := rfl
      omega
    · simpa [known] using h
end K08
/-! PC: statistics are made. -/
namespace K08
open PySem PySem.Spec L2 D
abbrev tupS (t : List Str) : P := .tup (strL t)
abbrev ruleP (r : List (List Str)) : P := .tup (r.map tupS)
theorem s_is_rule {r : List (List Str)} {n : Nat} {S : Store} {Q : P → Store → Prop} {E : DX} (hn : n ≤ 6) (hl : r.length = n) (hr : ∀ t ∈ r, t.Sublist (known n)) (h : Q (.bl true) S) : d_is_rule [ruleP r, .int n] S Q E := by
  refine ⟨rfl, ?_⟩
  subst hl
  simp [T_is_rule, SSeq, SIf, SAsg, SRet, SNext, SExpr, SOwn, BOr, BAnd, BNot, BTru, B2, BCh, TAnd, TOr, TNot, TIf, TCh, TCall, TCl, ACons, ANil, vals, TV, TC, TF, T1, T2, TTup, TLst, TFz, NLst, GN, GT, GCons, GNil, truD, startE, isiD, tyN, isB, isKnown, asL0, asL, asQ, lenD, ordD, N_is_rule, neD, asD, eqOk_int, eqP_int]
  refine s_terms_of hn ?_
  simp [ISeq, asI, NLc]
  refine ⟨szN (by simp; omega), ?_⟩
  refine comp_map (fun _ => .bl true) _ _ (fun p hp K k => ?_) ?_
  · obtain ⟨t, ht, rfl⟩ := List.mem_map.mp hp
    simp [SSeq, SIf, SAsg, SRet, SNext, SExpr, SOwn, BOr, BAnd, BNot, BTru, B2, BCh, TAnd, TOr, TNot, TIf, TCh, TCall, TCl, ACons, ANil, vals, TV, TC, TF, T1, T2, TTup, TLst, TFz, NLst, GN, GT, GCons, GNil, truD, startE, isiD, tyN, isB, isKnown, asL0, asL, asQ, lenD, ordD]
    refine s_first_fall (TxL.l _) (fun x hx => (hr t ht).subset hx) ((known_asc _ hn).sublist (hr t ht)) ?_
    simp [isD, _root_.D.isNon]
    exact k _ rfl
  · simp only [List.nil_append, frzO]
    obtain ⟨bs, e1, e2⟩ := bls_true ((r.map tupS).map fun _ => P.bl true) (by simp)
    simp only [allD, asL, Option.bind_some, e1, e2]
    exact h
theorem s_check_rules {rs : List (List (List Str))} {ks : List Str} {n : Nat} {S : Store} {Q : P → Store → Prop} {E : DX} (hn : n ≤ 6) (hl : rs.length = ks.length) (hr : ∀ r ∈ rs, r.length = n ∧ ∀ t ∈ r, t.Sublist (known n)) (h : Q .non S) :
    d_check_rules [.tup (rs.map ruleP), .tup (strL ks), .int n] S Q E := by
  refine ⟨rfl, ?_⟩
  simp [T_check_rules, SSeq, SIf, SAsg, SRet, SNext, SExpr, SOwn, BOr, BAnd, BNot, BTru, B2, BCh, TAnd, TOr, TNot, TIf, TCh, TCall, TCl, ACons, ANil, vals, TV, TC, TF, T1, T2, TTup, TLst, TFz, NLst, GN, GT, GCons, GNil, truD, startE, isiD, tyN, isB, isKnown, asL0, asL, asQ, lenD, ordD, N_check_rules, neD, asD, eqOk_int, eqP_int, hl, SFor, IEn, asI]
  refine for_i (fun pre ρ S' => S' = S ∧ ∃ a b, ρ = [.v (.tup (rs.map ruleP)), .v (.tup (strL ks)), .v (.int n), a, b]) (fun pre p post e ρ S' ⟨hS, a, b, hρ⟩ D' h1 h2 h3 h4 => ?_) ⟨rfl, _, _, rfl⟩ fun ρ S' ⟨hS, a, b, hρ⟩ => ?_
  · subst hS hρ
    obtain ⟨q, hq, rfl⟩ := enumP_get e
    rw [List.getElem?_map] at hq
    obtain ⟨x, hx, rfl⟩ := Option.map_eq_some_iff.mp hq
    obtain ⟨k1, k2⟩ := hr x (List.mem_of_getElem? hx)
    simp [SSeq, SIf, SAsg, SRet, SNext, SExpr, SOwn, BOr, BAnd, BNot, BTru, B2, BCh, TAnd, TOr, TNot, TIf, TCh, TCall, TCl, ACons, ANil, vals, TV, TC, TF, T1, T2, TTup, TLst, TFz, NLst, GN, GT, GCons, GNil, truD, startE, isiD, tyN, isB, isKnown, asL0, asL, asQ, lenD, ordD]
    exact s_is_rule hn k1 k2 (by simp [truD]; exact h1 _ _ ⟨rfl, _, _, rfl⟩)
  · subst hS
    exact h
theorem slots_asc (n : Nat) : Asc (slots.take n) := by
  have p : ∀ l : List Str, pwB l = true → Asc l := fun l => by
    induction l with
    | nil => exact fun _ => .nil
    | cons a l ih =>
      intro h
      have h' : (l.all (ltS a ·) && pwB l) = true := h
      rw [Bool.and_eq_true] at h'
      exact .cons (List.all_eq_true.mp h'.1) (ih h'.2)
  exact (p slots (by decide +kernel)).sublist (List.take_sublist _ _)
theorem cut_slots {n : Nat} : cut ([.str "r0", .str "r1", .str "r2", .str "r3", .str "r4", .str "r5"] : List P) none (some (n : Int)) = strL (slots.take n) := by
  rw [cutHi _ (by omega)]
  show (strL slots).take n = _
  exact (List.map_take).symm
theorem s_check_result {es : List Str} {n : Nat} {S : Store} {Q : P → Store → Prop} {E : DX} (he : es ≠ []) (hs : es.Sublist (slots.take n)) (h : Q .non S) : d_check_result [.tup (strL es), .int n] S Q E := by
  refine ⟨rfl, ?_⟩
  have e1 : eqOk (.tup (strL es)) (.tup []) = true := by
    have : P.isE (.tup (strL es)) = true := isEs_strL es
    unfold eqOk
    rw [this]
    have d0 : P.dep (.tup []) = 1 := rfl
    rw [d0]
    simp
    refine ⟨rfl, ?_⟩
    omega
  have e2 : eqP (.tup (strL es)) (.tup []) = false := by
    cases es with
    | nil => exact (he rfl).elim
    | cons x xs => simp [eqP, P.dat, PyData.eqv, P.dats, PyData.eqvAll]
  simp [T_check_result, SSeq, SIf, SAsg, SRet, SNext, SExpr, SOwn, BOr, BAnd, BNot, BTru, B2, BCh, TAnd, TOr, TNot, TIf, TCh, TCall, TCl, ACons, ANil, vals, TV, TC, TF, T1, T2, TTup, TLst, TFz, NLst, GN, GT, GCons, GNil, truD, startE, isiD, tyN, isB, isKnown, asL0, asL, asQ, lenD, ordD, N_check_result, eqD, asD, e1, e2, TSl, ONo, OPart, slD, cut_slots]
  refine s_first_fall (ks := slots.take n) (by rw [← List.map_take]; exact TxL.t _) (fun x hx => hs.subset hx) ((slots_asc n).sublist hs) ?_
  simp [nisD, _root_.D.isNon]
  exact h
/-! ### statistics -/
structure Stc where
  side : Bool
  kinds : List Str
  start : List (Option Int)
  rules : List (List (List Str))
  ends : List Str
def nameC (b : Bool) : Str := if b = true then "Greatest" else "Least"
def sideS (b : Bool) : Str := if b = true then "greatest" else "least"
def flds (s : Stc) : List (Str × P) := [("kinds", .tup (strL s.kinds)), ("start", .tup (oiL s.start)), ("rules", .tup (s.rules.map ruleP)), ("ends", .tup (strL s.ends))]
def stP (s : Stc) : P := .ins (nameC s.side) (flds s)
structure Ok (s : Stc) : Prop where
  k1 : 1 ≤ s.kinds.length
  k4 : s.kinds.length ≤ 4
  kk : ∀ k ∈ s.kinds, isKindS k = true
  ka : Asc s.kinds
  s1 : 1 ≤ s.start.length
  s6 : s.start.length ≤ 6
  ss : ∀ x ∈ s.start, x = none ∨ x = some 0
  rl : s.rules.length = s.kinds.length
  rn : ∀ r ∈ s.rules, r.length = s.start.length ∧ ∀ t ∈ r, t.Sublist (known s.start.length)
  el : s.ends ≠ []
  es : s.ends.Sublist (slots.take s.start.length)
theorem s_init {s : Stc} {a : Addr} {c : Str} {S : Store} {Q : P → Store → Prop} {E : DX} (o : Ok s) (hS : S a = some (.ins c [])) (hc : c = "Greatest" ∨ c = "Least") (h : Q .non (ups S a (.ins c (flds s)))) :
    d_Statistic___init__ [.ref a, .tup (strL s.kinds), .tup (oiL s.start), .tup (s.rules.map ruleP), .tup (strL s.ends)] S Q E := by
  refine ⟨rfl, ?_⟩
  have hc' : (["Greatest", "Least"] : List Str).contains c = true := by rcases hc with rfl | rfl <;> decide
  refine seq_do ?_
  simp only [SExpr, TCl, ACons, ANil, TV, vals, startE, N_Statistic___init__, List.map_cons, List.map_nil, List.cons_append, List.nil_append, List.getElem?_cons_zero, List.getElem?_cons_succ, Option.map_some]
  refine s_check_kinds o.k1 o.k4 o.kk o.ka ?_
  refine seq_do ?_
  simp only [SExpr, TCl, ACons, ANil, TV, vals, List.map_cons, List.map_nil, List.cons_append, List.nil_append, List.getElem?_cons_zero, List.getElem?_cons_succ, Option.map_some]
  refine s_check_start o.s1 o.s6 o.ss ?_
  refine seq_do ?_
  simp [SExpr, TCl, ACons, ANil, TV, vals, TCall, lenD, asQ]
  refine s_check_rules o.s6 o.rl o.rn ?_
  refine seq_do ?_
  simp [SExpr, TCl, ACons, ANil, TV, vals, TCall, lenD, asQ]
  refine s_check_result o.el o.es ?_
  have n1 : ("kinds" : Str) ≠ "start" := by decide
  have n2 : ("kinds" : Str) ≠ "rules" := by decide
  have n3 : ("kinds" : Str) ≠ "ends" := by decide
  have n4 : ("start" : Str) ≠ "rules" := by decide
  have n5 : ("start" : Str) ≠ "ends" := by decide
  have n6 : ("rules" : Str) ≠ "ends" := by decide
  simp [SSeq, SFld, TV, hS, ups_same, ups_ups, putD, n1, n2, n3, n4, n5, n6, hc]
  exact h
end K08
/-! PD: statistics are made, asked for their parts, compared. -/
namespace K08
open PySem PySem.Spec L2 D
theorem name_cases (b : Bool) : nameC b = "Greatest" ∨ nameC b = "Least" := by cases b <;> simp [nameC]
theorem ins_st (s : Stc) (S : Store) : insD S (.v (stP s)) = some (nameC s.side, flds s) := rfl
theorem fresh_rem {S : Store} {a : Addr} {o : SO} (h : S a = none) : rem (ups S a o) a = S := rem_ups h
/-- a class is called -/
theorem s_make {s : Stc} {S : Store} {ρ : D.Env} {Q : SO → D.Env → Store → Prop} {W : DXr} {T : DT} {B : DA} (o : Ok s) (hT : ∀ K : DQ, K (.v (.cl (nameC s.side))) ρ S → T ρ S K)
    (hB : ∀ K : List R → D.Env → Store → Prop, K [.v (.tup (strL s.kinds)), .v (.tup (oiL s.start)), .v (.tup (s.rules.map ruleP)), .v (.tup (strL s.ends))] ρ S → B ρ S K)
    (h : Q (.ins (nameC s.side) (flds s)) ρ S) : NMk tmk___init___5 5 0 W T (A2p B) ρ S Q := by
  refine hT _ ?_
  have key : ∀ c : Str, c = "Greatest" ∨ c = "Least" → tmk___init___5.lookup c = some (d_Statistic___init__, [.p 0, .p 1, .p 2, .p 3, .p 4], []) := by
    rintro c (rfl | rfl) <;> rfl
  simp only [key _ (name_cases s.side)]
  refine hB _ ?_
  simp only [vals, Option.map_some]
  intro a ha
  refine ⟨rfl, rfl, ?_⟩
  refine s_init o ups_same (name_cases s.side) ?_
  rw [ups_ups]
  simp only [ups_same, fresh_rem ha]
  exact ⟨trivial, trivial, h⟩
theorem side_eq (b : Bool) : decide (sideS b = ("greatest" : Str)) = b := by cases b <;> decide
theorem s_made {s : Stc} {S : Store} {Q : P → Store → Prop} {E : DX} (o : Ok s) (h : Q (stP s) S) : d_made [.str (sideS s.side), .tup (strL s.kinds), .tup (oiL s.start), .tup (s.rules.map ruleP), .tup (strL s.ends)] S Q E := by
  refine ⟨rfl, ?_⟩
  simp only [T_made, SSeq, SIf, B2, T2, TV, TC, startE, N_made, List.map_cons, List.map_nil, List.cons_append, List.getElem?_cons_zero, eqD, asD, eqOk_str, eqP_str, side_eq]
  refine ⟨trivial, ?_⟩
  cases hs : s.side with
  | true =>
    simp only [if_true, SRet, TFz]
    refine s_make o (fun K k => by rw [hs] at k; exact k) (fun K k => by simpa [ACons, ANil, TV] using k) ?_
    simp only [frzO]
    exact h
  | false =>
    simp only [Bool.false_eq_true, if_false, SNext, SRet, TFz]
    refine s_make o (fun K k => by rw [hs] at k; exact k) (fun K k => by simpa [ACons, ANil, TV] using k) ?_
    simp only [frzO]
    exact h
/-- the plain form -/
def plP (s : Stc) : P := .tup [.str (sideS s.side), .tup (strL s.kinds), .tup (oiL s.start), .tup (s.rules.map ruleP), .tup (strL s.ends)]
theorem a_SIDE {s : Stc} {ρ : D.Env} {S : Store} {Q : DQ} (h : Q (.v (.str (sideS s.side))) ρ S) : attD "SIDE" tatt_SIDE (.v (stP s)) ρ S Q := by
  unfold attD
  rw [ins_st]
  cases hs : s.side <;> (rw [hs] at h; exact ⟨rfl, h⟩)
theorem a_kinds {s : Stc} {ρ : D.Env} {S : Store} {Q : DQ} (h : Q (.v (.tup (strL s.kinds))) ρ S) : attD "kinds" tatt_kinds (.v (stP s)) ρ S Q := by
  unfold attD
  rw [ins_st]
  cases s.side <;> exact h
theorem a_start {s : Stc} {ρ : D.Env} {S : Store} {Q : DQ} (h : Q (.v (.tup (oiL s.start))) ρ S) : attD "start" tatt_start (.v (stP s)) ρ S Q := by
  unfold attD
  rw [ins_st]
  cases s.side <;> exact h
theorem a_rules {s : Stc} {ρ : D.Env} {S : Store} {Q : DQ} (h : Q (.v (.tup (s.rules.map ruleP))) ρ S) : attD "rules" tatt_rules (.v (stP s)) ρ S Q := by
  unfold attD
  rw [ins_st]
  cases s.side <;> exact h
theorem a_ends {s : Stc} {ρ : D.Env} {S : Store} {Q : DQ} (h : Q (.v (.tup (strL s.ends))) ρ S) : attD "ends" tatt_ends (.v (stP s)) ρ S Q := by
  unfold attD
  rw [ins_st]
  cases s.side <;> exact h
theorem s_plain {s : Stc} {S : Store} {Q : P → Store → Prop} {E : DX} (h : Q (plP s) S) : d_Statistic_plain [stP s] S Q E := by
  refine ⟨rfl, ?_⟩
  simp only [T_Statistic_plain, SRet, TTup, ACons, ANil, TAtt, TV, startE, N_Statistic_plain, List.map_cons, List.map_nil, List.cons_append, List.getElem?_cons_zero]
  refine a_SIDE (a_kinds (a_start (a_rules (a_ends ?_))))
  exact ⟨szN (by show (5 : Nat) ≤ 10000000; decide), h⟩
theorem a_plain {s : Stc} {ρ : D.Env} {S : Store} {Q : DQ} (h : Q (.v (plP s)) ρ S) : attD "plain" tatt_plain (.v (stP s)) ρ S Q := by
  unfold attD
  rw [ins_st]
  cases s.side <;> exact s_plain h
def Stc.turn (s : Stc) : Stc := { s with side := !s.side }
theorem Ok.turn {s : Stc} (o : Ok s) : Ok s.turn := ⟨o.k1, o.k4, o.kk, o.ka, o.s1, o.s6, o.ss, o.rl, o.rn, o.el, o.es⟩
/-! ### equality -/
theorem isE_oi : ∀ xs : List (Option Int), P.isEs (oiL xs) = true
  | [] => rfl
  | none :: xs => by show (P.isE .non && P.isEs (oiL xs)) = true; rw [isE_oi xs]; rfl
  | some i :: xs => by show (P.isE (.int i) && P.isEs (oiL xs)) = true; rw [isE_oi xs]; rfl
theorem isEs_map {α : Type} (f : α → P) (h : ∀ a, P.isE (f a) = true) : ∀ xs : List α, P.isEs (xs.map f) = true
  | [] => rfl
  | x :: xs => by show (P.isE (f x) && P.isEs (xs.map f)) = true; rw [h, isEs_map f h xs]; rfl
theorem isE_rules (rs : List (List (List Str))) : P.isE (.tup (rs.map ruleP)) = true :=
  isEs_map ruleP (fun r => isEs_map tupS (fun t => isEs_strL t) r) rs
theorem isE_plain (s : Stc) : P.isE (plP s) = true := by
  show (P.isE (.str (sideS s.side)) && (P.isEs (strL s.kinds) && (P.isEs (oiL s.start) && (P.isE (.tup (s.rules.map ruleP)) && (P.isEs (strL s.ends) && true))))) = true
  rw [isEs_strL, isE_oi, isE_rules, isEs_strL]; rfl
theorem known_len {n : Nat} (h : n ≤ 6) : (known n).length ≤ 14 := by
  unfold known
  rw [List.length_append, List.length_cons, twos_len, List.length_take]
  have : slots.length = 6 := rfl
  simp; omega
theorem eq_nil {xs : List P} (h : P.isEs xs = true) : eqOk (.lst xs) (.lst []) = true ∧ eqP (.lst xs) (.lst []) = xs.isEmpty := by
  refine ⟨?_, ?_⟩
  · have : P.isE (.lst xs) = true := h
    unfold eqOk
    rw [this]
    have d0 : P.dep (.lst []) = 1 := rfl
    rw [d0]
    simp
    refine ⟨rfl, ?_⟩
    omega
  · cases xs with
    | nil => rfl
    | cons x xs => simp [eqP, P.dat, PyData.eqv, P.dats, PyData.eqvAll]
theorem ltS_irrefl (s : Str) : ltS s s = false := by
  unfold ltS
  exact decide_eq_false (List.lt_irrefl _)
theorem s_getitem {s : Stc} {i : Nat} {k : Str} {r : List (List Str)} {S : Store} {Q : P → Store → Prop} {E : DX} (o : Ok s) (hk : s.kinds[i]? = some k) (hr : s.rules[i]? = some r) (h : Q (ruleP r) S) : d_Statistic___getitem__ [stP s, .str k] S Q E := by
  refine ⟨rfl, ?_⟩
  refine seq_do ?_
  simp [SIf, BTru, TCall, ACons, ANil, TV, TC, isiD, tyN, isB, isKnown, truD, startE, N_Statistic___getitem__, SFor, IZs, A2k, TAtt]
  refine a_kinds (a_rules ?_)
  simp only [asI]
  refine ⟨fun _ => by simp [o.rl], ?_⟩
  refine for_i (fun pre ρ S' => S' = S ∧ pre.length ≤ i ∧ ∃ a b, ρ = [.v (stP s), .v (.str k), a, b]) (fun pre p post e ρ S' ⟨hS, hi, a, b, hρ⟩ D' h1 h2 h3 h4 => ?_) ⟨rfl, Nat.zero_le _, _, _, rfl⟩ fun ρ S' ⟨hS, hi, a, b, hρ⟩ => ?_
  · subst hS hρ
    have hp : (zipP (strL s.kinds) (s.rules.map ruleP))[pre.length]? = some p := by rw [e]; simp
    unfold zipP at hp
    rw [List.getElem?_zipWith] at hp
    have e1 : (strL s.kinds)[pre.length]? = (s.kinds[pre.length]?).map P.str := List.getElem?_map ..
    have e2 : (s.rules.map ruleP)[pre.length]? = (s.rules[pre.length]?).map ruleP := List.getElem?_map ..
    rw [e1, e2] at hp
    cases a1 : s.kinds[pre.length]? with
    | none => rw [a1] at hp; cases hp
    | some x =>
      cases a2 : s.rules[pre.length]? with
      | none => rw [a1, a2] at hp; cases hp
      | some y =>
        rw [a1, a2] at hp
        cases hp
        simp [GT, GCons, GN, GNil, B2, T2, TV, eqD, asD, eqOk_str, eqP_str]
        by_cases c : pre.length = i
        · subst c
          rw [a1] at hk; cases hk
          rw [a2] at hr; cases hr
          simp [SIf, B2, T2, SRet, TV, h3, eqD, asD, eqOk_str, eqP_str]
          exact h
        · have hlt : pre.length < i := by omega
          have hi' : i < s.kinds.length := (List.getElem?_eq_some_iff.mp hk).1
          have lt := List.pairwise_iff_getElem.mp o.ka pre.length i (by omega) hi' hlt
          rw [(List.getElem?_eq_some_iff.mp a1).2, (List.getElem?_eq_some_iff.mp hk).2] at lt
          have ne : ¬ x = k := fun e => by subst e; rw [ltS_irrefl] at lt; cases lt
          simp [SIf, B2, T2, TV, eqD, asD, eqOk_str, eqP_str, ne, SNext]
          exact h1 _ _ ⟨rfl, by simp; omega, _, _, rfl⟩
  · have hi' : i < s.kinds.length := (List.getElem?_eq_some_iff.mp hk).1
    have : (zipP (strL s.kinds) (s.rules.map ruleP)).length = s.kinds.length := by
      unfold zipP
      rw [List.length_zipWith, List.length_map, List.length_map, o.rl, Nat.min_self]
    rw [this] at hi
    omega
end K08
/-! PE: what a statistic does on a log. -/
namespace K08
open PySem PySem.Spec L2 D
/-! ### the best of values -/
def bestI (g : Bool) : List Int → Option Int
  | [] => none
  | x :: xs => some (xs.foldl (fun a b => if g = true then max a b else min a b) x)
theorem fold_spec (g : Bool) : ∀ (xs : List Int) (x : Int), (let m := xs.foldl (fun a b => if g = true then max a b else min a b) x; m ∈ x :: xs ∧ ∀ y ∈ x :: xs, if g = true then y ≤ m else m ≤ y)
  | [], x => by simp
  | z :: xs, x => by
    have ih := fold_spec g xs (if g = true then max x z else min x z)
    obtain ⟨h1, h2⟩ := ih
    simp only [List.foldl_cons]
    refine ⟨?_, fun y hy => ?_⟩
    · rcases (List.mem_cons.mp h1) with e | e
      · rw [e]
        cases g
        · simp only [Bool.false_eq_true, if_false]; rcases Int.le_total x z with h | h
          · rw [Int.min_eq_left h]; simp
          · rw [Int.min_eq_right h]; simp
        · simp only [if_true]
          rcases Int.le_total x z with h | h
          · rw [Int.max_eq_right h]; simp
          · rw [Int.max_eq_left h]; simp
      · exact List.mem_cons_of_mem _ (List.mem_cons_of_mem _ e)
    · have h0 := h2 _ (List.mem_cons_self ..)
      have h3 := fun hy' => h2 y (List.mem_cons_of_mem _ hy')
      rcases (List.mem_cons.mp hy) with e | hy
      · subst e
        cases g
        · simp only [Bool.false_eq_true, if_false] at h0 ⊢
          exact Int.le_trans h0 (Int.min_le_left _ _)
        · simp only [if_true] at h0 ⊢
          exact Int.le_trans (Int.le_max_left _ _) h0
      · rcases (List.mem_cons.mp hy) with e | hy
        · subst e
          cases g
          · simp only [Bool.false_eq_true, if_false] at h0 ⊢
            exact Int.le_trans h0 (Int.min_le_right _ _)
          · simp only [if_true] at h0 ⊢
            exact Int.le_trans (Int.le_max_right _ _) h0
        · exact h3 hy
theorem bestI_eq {g : Bool} {xs : List Int} {m : Int} (hm : m ∈ xs) (h : ∀ y ∈ xs, if g = true then y ≤ m else m ≤ y) : bestI g xs = some m := by
  cases xs with
  | nil => cases hm
  | cons x xs =>
    obtain ⟨h1, h2⟩ := fold_spec g xs x
    have a := h _ h1
    have b := h2 _ hm
    refine congrArg some ?_
    cases g
    · simp only [Bool.false_eq_true, if_false] at a b ⊢
      exact Int.le_antisymm b a
    · simp only [if_true] at a b ⊢
      exact Int.le_antisymm a b
theorem bestI_neg (g : Bool) (xs : List Int) : bestI (!g) (xs.map (- ·)) = (bestI g xs).map (- ·) := by
  cases xs with
  | nil => rfl
  | cons x xs =>
    obtain ⟨h1, h2⟩ := fold_spec g xs x
    show bestI (!g) ((x :: xs).map (- ·)) = some (- _)
    refine bestI_eq (List.mem_map.mpr ⟨_, h1, rfl⟩) fun y hy => ?_
    obtain ⟨z, hz, rfl⟩ := List.mem_map.mp hy
    have := h2 z hz
    cases g
    · simp only [Bool.false_eq_true, if_false, Bool.not_false, if_true] at this ⊢
      omega
    · simp only [Bool.false_eq_true, if_false, Bool.not_true, if_true] at this ⊢
      omega
abbrev intsL (xs : List Int) : List P := xs.map P.int
theorem intL_ints : ∀ xs : List Int, intL (intsL xs) = some xs
  | [] => rfl
  | x :: xs => by show (intL (intsL xs)).map (x :: ·) = _; rw [intL_ints xs]; rfl
theorem isEs_ints : ∀ xs : List Int, P.isEs (intsL xs) = true
  | [] => rfl
  | x :: xs => by show (P.isE (.int x) && P.isEs (intsL xs)) = true; rw [isEs_ints xs]; rfl
theorem flt_oi : ∀ xs : List (Option Int), ((oiL xs).filter fun p => !(_root_.D.isNon p)) = intsL (xs.filterMap id)
  | [] => rfl
  | none :: xs => by rw [List.filterMap_cons]; exact flt_oi xs
  | some i :: xs => by
    rw [List.filterMap_cons]
    show P.int i :: ((oiL xs).filter fun p => !(_root_.D.isNon p)) = _
    rw [flt_oi xs]; rfl
theorem s_best_of {g : Bool} {xs : List (Option Int)} {S : Store} {Q : P → Store → Prop} {E : DX} (hl : xs.length ≤ 1000) (h : Q (oiP (bestI g (xs.filterMap id))) S) : d_best_of [.str (sideS g), .lst (oiL xs)] S Q E := by
  refine ⟨rfl, ?_⟩
  refine seq_do (asg_do ?_)
  simp only [TFz, NLc, ISeq, TV, startE, N_best_of, List.map_cons, List.map_nil, List.cons_append, List.nil_append, List.getElem?_cons_succ, List.getElem?_cons_zero, asI]
  refine ⟨szN (by simp; omega), ?_⟩
  refine comp_flt (fun p => !(_root_.D.isNon p)) id _ _ (fun p hp K k => ?_) ?_
  · obtain ⟨x, hx, rfl⟩ := List.mem_map.mp hp
    have k' := k [.v (.str (sideS g)), .v (.lst (oiL xs)), .un, .v (oiP x)] rfl
    cases x with
    | none => simpa [GN, B2, T2, TV, TC, nisD, _root_.D.isNon, wipeE] using k'
    | some i => simpa [GN, B2, T2, TV, TC, nisD, _root_.D.isNon, wipeE] using k'
  · rw [List.nil_append, List.map_id, flt_oi]
    generalize xs.filterMap id = ys at h
    obtain ⟨e1, e2⟩ := eq_nil (isEs_ints ys)
    simp [frzO, GN, SSeq, SIf, B2, T2, TV, TLst, ANil, vals, eqD, asD, e1, e2, wipeE]
    cases ys with
    | nil => simpa [SRet, TC, bestI] using h
    | cons y ys =>
      have ne : (y :: ys) ≠ [] := by simp
      simp [SNext, SRet, TIf, B2, T2, TV, TC, eqD, asD, eqOk_str, eqP_str, side_eq]
      cases g with
      | true =>
        simp only [if_true, TCall, ACons, ANil, TV, List.getElem?_cons_succ, List.getElem?_cons_zero]
        show maxD [.v (.lst (intsL (y :: ys)))] _ _ _
        unfold maxD
        simp only [asL, Option.bind_some, intL_ints]
        refine ⟨ne, fun m hm hmax => ?_⟩
        rw [bestI_eq hm (fun z hz => by simpa using hmax z hz)] at h
        exact h
      | false =>
        simp only [Bool.false_eq_true, if_false, TCall, ACons, ANil, TV, List.getElem?_cons_succ, List.getElem?_cons_zero]
        show minD [.v (.lst (intsL (y :: ys)))] _ _ _
        unfold minD
        simp only [asL, Option.bind_some, intL_ints]
        refine ⟨ne, fun m hm hmax => ?_⟩
        rw [bestI_eq hm (fun z hz => by simpa using hmax z hz)] at h
        exact h
end K08
/-! PF: one event taken by a statistic; what is read out. -/
namespace K08
open PySem PySem.Spec L2 D
/-! ### terms read -/
def srcS (t : Str) : Str := if t = "0" ∨ t = "x" then "0" else cutS t none (some 2)
def takeS (t : Str) : Bool := if t = "0" ∨ t = "x" then decide (t = "x") else decide ((2 : Int) < (t.length : Int))
theorem s_source_of {t : Str} {S : Store} {Q : P → Store → Prop} {E : DX} (h : Q (.tup [.str (srcS t), .bl (takeS t)]) S) : d_source_of [.str t] S Q E := by
  refine ⟨rfl, ?_⟩
  have m : memP (.str t) [.str "0", .str "x"] = decide (t = "0" ∨ t = "x") := by
    rw [show ([.str "0", .str "x"] : List P) = strL ["0", "x"] from rfl, memP_strL]
    simp
  have e1 : P.isEs [.str "0", .str "x"] = true := rfl
  have e2 : (P.str t).isE = true := rfl
  have e3 : (P.str t).dep ≤ 50 := Nat.zero_le _
  by_cases c : t = "0" ∨ t = "x"
  · rw [srcS, takeS, if_pos c, if_pos c] at h
    simp [T_source_of, SSeq, SIf, B2, T2, TV, TC, TTup, ACons, ANil, vals, startE, N_source_of, inD, asD, asQ, m, e1, e2, e3, c, SRet, eqD, eqOk_str, eqP_str]
    exact ⟨szN (by decide), h⟩
  · rw [srcS, takeS, if_neg c, if_neg c] at h
    have c' := c
    simp [T_source_of, SSeq, SIf, B2, T2, TV, TC, TTup, ACons, ANil, vals, startE, N_source_of, inD, asD, asQ, m, e1, e2, e3, c, SRet, SNext, TSl, ONo, OPart, slD, TCall, lenD, ordD]
    exact ⟨szN (by decide), h⟩
/-! ### contents -/
abbrev Row := List (Option Int)
def heldOf (row : Row) : List (Str × Option Int) := ("0", some 0) :: slots.zip row
abbrev pairP (q : Str × Option Int) : P × P := (.str q.1, oiP q.2)
theorem valP_of (s : Str) : ∀ kvs : List (Str × Option Int), valP (kvs.map pairP) (.str s) = (kvs.lookup s).map oiP
  | [] => rfl
  | (k, v) :: r => by
    rw [List.map_cons, List.lookup_cons]
    show (if keq (.str k) (.str s) = true then some (oiP v) else valP (r.map pairP) (.str s)) = _
    rw [valP_of s r]
    have e1 : keq (.str k) (.str s) = decide (k = s) := rfl
    rw [e1]
    by_cases c : k = s
    · subst c; simp
    · have c' : (s == k) = false := by simpa using fun e => c e.symm
      simp [c, c']
def hval (row : Row) (s : Str) : Option Int := match (heldOf row).lookup s with
  | some x => x
  | none => none
theorem held_some {row : Row} {s : Str} (h : s ∈ (("0" : Str) :: slots.take row.length)) : (heldOf row).lookup s = some (hval row s) := by
  unfold hval
  have : ((heldOf row).lookup s).isSome = true := by
    unfold heldOf
    rw [List.lookup_cons]
    by_cases c : s = "0"
    · subst c; rfl
    · have c' : (s == "0") = false := by simpa using c
      rw [c']
      rcases (List.mem_cons.mp h) with e | e
      · exact (c e).elim
      · simp only
        have key : ∀ (ks : List Str) (r : Row), s ∈ ks.take r.length → ((ks.zip r).lookup s).isSome = true := by
          intro ks
          induction ks with
          | nil => intro r h; simp at h
          | cons k ks ih =>
            intro r h
            cases r with
            | nil => simp at h
            | cons x r =>
              rw [List.zip_cons_cons, List.lookup_cons]
              by_cases c : s = k
              · subst c; simp
              · have c' : (s == k) = false := by simpa using c
                rw [c']
                rw [List.length_cons, List.take_succ_cons] at h
                rcases (List.mem_cons.mp h) with e | e
                · exact (c e).elim
                · exact ih r e
        exact key slots row e
  cases e : (heldOf row).lookup s with
  | none => rw [e] at this; cases this
  | some x => rfl
def termVal (row : Row) (amt : Int) (t : Str) : Option Int := (hval row (srcS t)).map fun c => if takeS t = true then c + amt else c
def stepF (g : Bool) (rule : List (List Str)) (row : Row) (amt : Int) : Row := rule.map fun t => bestI g (t.filterMap (termVal row amt))
theorem src_known {n : Nat} (h : n ≤ 6) {t : Str} (ht : t ∈ known n) : srcS t ∈ (("0" : Str) :: slots.take n) := by
  have : ∀ n, n < 7 → ((known n).all fun t => (("0" : Str) :: slots.take n).contains (srcS t)) = true := by decide +kernel
  have := List.all_eq_true.mp (this n (by omega)) t ht
  simpa using this
/-- a dict comprehension that changes nothing -/
theorem dc_pure {g : DG} {tk tv : DT} {vs : List Nat} {Q : List (P × P) → D.Env → Store → Prop} {ρ : D.Env} {S : Store} (kf vf : P → P) : ∀ (ps : List P) (acc : List (P × P)),
    (∀ p ∈ ps, (keyP (kf p)).isSome = true ∧ ∀ K : P → P → D.Env → Store → Prop, (∀ ρ', wipeE ρ' vs = ρ → K (kf p) (vf p) ρ' S) → g p ρ S fun ρ2 S2 => tk ρ2 S2 fun rk ρ4 S4 => tv ρ4 S4 fun rv ρ5 S5 => match rk, rv with
      | .v k, .v y => (keyP k).isSome = true ∧ K k y ρ5 S5
      | _, _ => False) → Q (ps.foldl (fun a p => putP a (kf p) (vf p)) acc) ρ S → dcL Tr g BYes tk tv vs Q ps acc ρ S
  | [], acc, _, h => ⟨trivial, h⟩
  | p :: ps, acc, hp, h => by
    obtain ⟨h1, h2⟩ := hp p (List.mem_cons_self ..)
    refine ⟨trivial, h2 (fun k y ρ5 S5 => dcL Tr g BYes tk tv vs Q ps (putP acc k y) (wipeE ρ5 vs) S5) fun ρ' e => ?_⟩
    rw [e]
    exact dc_pure kf vf ps _ (fun q hq => hp q (List.mem_cons_of_mem _ hq)) h
def fstP : P → P
  | .row [a, _] => a
  | p => p
def sndP : P → P
  | .row [_, b] => b
  | p => p
theorem held_eq {row : Row} (h : row.length ≤ 6) : mergeP (mergeP [] [(.str "0", .int 0)]) ((zipP (strL slots) (oiL row)).foldl (fun a p => putP a (fstP p) (sndP p)) []) = (heldOf row).map pairP := by
  match row, h with
  | [], _ => rfl
  | [a], _ => rfl
  | [a, b], _ => rfl
  | [a, b, c], _ => rfl
  | [a, b, c, d], _ => rfl
  | [a, b, c, d, e], _ => rfl
  | [a, b, c, d, e, f], _ => rfl
  | _ :: _ :: _ :: _ :: _ :: _ :: _ :: _, h => simp at h
theorem putP_len (kvs : List (P × P)) (k v : P) : (putP kvs k v).length ≤ kvs.length + 1 := by
  unfold putP
  split
  · rw [List.length_map]; omega
  · simp
theorem fold_len (kf vf : P → P) : ∀ (ps : List P) (acc : List (P × P)), (ps.foldl (fun a p => putP a (kf p) (vf p)) acc).length ≤ acc.length + ps.length
  | [], acc => Nat.le_refl _
  | p :: ps, acc => by
    have := fold_len kf vf ps (putP acc (kf p) (vf p))
    have := putP_len acc (kf p) (vf p)
    rw [List.foldl_cons, List.length_cons]; omega
abbrev tkP (t : Str) : P := .tup [.str (srcS t), .bl (takeS t)]
def SB : DS := SIf (B2 nisD (T2 (ixY ixD) (TV 4) (TV 10)) (TC P.non)) (SExpr (TM tyL appD (TV 9) (ACons (TIf (BTru (TV 11)) (T2 addD (T2 (ixY ixD) (TV 4) (TV 10)) (TV 3)) (T2 (ixY ixD) (TV 4) (TV 10))) (ANil)))) (SNext)
theorem terms_loop {row : Row} {amt : Int} {v0 v1 v2 v5 v6 v7 v8 v12 : Sl} {S : Store} {Dn : DEnds} : ∀ (ts : List Str) (acc : List Int) (a b : Sl), acc.length + ts.length ≤ 1000 → (∀ t ∈ ts, srcS t ∈ (("0" : Str) :: slots.take row.length)) →
    (∀ a b, Dn.nx [v0, v1, v2, .v (.int amt), .v (.dct ((heldOf row).map pairP)), v5, v6, v7, v8, .own (.lst (intsL (acc ++ ts.filterMap (termVal row amt)))), a, b, v12] S) →
    forL Tr (GT 2 (GCons (GN 10) (GCons (GN 11) (GNil)))) SB Dn (ts.map tkP) [v0, v1, v2, .v (.int amt), .v (.dct ((heldOf row).map pairP)), v5, v6, v7, v8, .own (.lst (intsL acc)), a, b, v12] S
  | [], acc, a, b, _, _, h => ⟨trivial, by simpa using h a b⟩
  | t :: ts, acc, a, b, hl, hm, h => by
    refine ⟨trivial, ?_⟩
    have e1 : valP ((heldOf row).map pairP) (.str (srcS t)) = some (oiP (hval row (srcS t))) := by
      rw [valP_of, held_some (hm t (List.mem_cons_self ..))]; rfl
    have ih := fun acc' hh => terms_loop (amt := amt) (v0 := v0) (v1 := v1) (v2 := v2) (v5 := v5) (v6 := v6) (v7 := v7) (v8 := v8) (v12 := v12) (S := S) (Dn := Dn) ts acc' (.v (.str (srcS t))) (.v (.bl (takeS t))) hh fun u hu => hm u (List.mem_cons_of_mem _ hu)
    have k0 : ∀ s : Str, (keyP (.str s)).isSome = true := fun _ => rfl
    simp only [GT, GCons, GN, GNil, SB, SIf, B2, T2, TV, TC, ixY, asDc, k0, e1, List.set_cons_succ, List.set_cons_zero, List.getElem?_cons_succ, List.getElem?_cons_zero]
    refine ⟨rfl, trivial, ?_⟩
    rw [List.filterMap_cons] at h
    have mp : ∀ z : Int, intsL (acc ++ [z]) = intsL acc ++ [P.int z] := fun z => List.map_append
    cases hv : hval row (srcS t) with
    | none =>
      rw [show termVal row amt t = none by unfold termVal; rw [hv]; rfl] at h
      simp only [hv, oiP, nisD, _root_.D.isNon, Bool.not_true, Bool.false_eq_true, if_false, SNext]
      exact ih acc (by simp at hl; omega) h
    | some c =>
      rw [hv] at e1
      simp only [hv, oiP, nisD, _root_.D.isNon, Bool.not_false, if_true, SExpr, TM, TV, List.getElem?_cons_succ, List.getElem?_cons_zero, ACons, ANil, TIf, BTru, truD]
      refine ⟨rfl, ?_⟩
      cases htk : takeS t with
      | true =>
        rw [show termVal row amt t = some (c + amt) by unfold termVal; rw [hv, htk]; rfl] at h
        rw [htk] at ih
        simp only [if_true, hv, oiP, T2, TV, TC, ixY, asDc, k0, e1, List.getElem?_cons_succ, List.getElem?_cons_zero, addD]
        refine ⟨trivial, ?_⟩
        simp only [appD, wrL, List.getElem?_cons_succ, List.getElem?_cons_zero, List.set_cons_succ, List.set_cons_zero]
        refine ⟨szN (by simp at hl ⊢; omega), ?_⟩
        have := ih (acc ++ [c + amt]) (by simp at hl ⊢; omega) (by simpa only [List.append_assoc, List.cons_append, List.nil_append] using h)
        rw [mp] at this
        exact this
      | false =>
        rw [show termVal row amt t = some c by unfold termVal; rw [hv, htk]; rfl] at h
        rw [htk] at ih
        simp only [Bool.false_eq_true, if_false, hv, oiP, T2, TV, TC, ixY, asDc, k0, e1, List.getElem?_cons_succ, List.getElem?_cons_zero]
        refine ⟨trivial, ?_⟩
        simp only [appD, wrL, List.getElem?_cons_succ, List.getElem?_cons_zero, List.set_cons_succ, List.set_cons_zero]
        refine ⟨szN (by simp at hl ⊢; omega), ?_⟩
        have := ih (acc ++ [c]) (by simp at hl ⊢; omega) (by simpa only [List.append_assoc, List.cons_append, List.nil_append] using h)
        rw [mp] at this
        exact this
theorem oi_ints (xs : List Int) : intsL xs = oiL (xs.map some) := by
  induction xs with
  | nil => rfl
  | cons x xs ih => exact congrArg (P.int x :: ·) ih
theorem flt_some (xs : List Int) : (xs.map some).filterMap id = xs := by
  induction xs with
  | nil => rfl
  | cons x xs ih => rw [List.map_cons, List.filterMap_cons]; show x :: _ = _; rw [ih]
/-- the body for one register -/
def SBO (W : DXr) : DS := (SSeq (SOwn 9 (NLst (ANil))) (SSeq (SFor (ISeq (TFz (NLc (ISeq (TV 8)) (GN 12) (BYes) (TCl noW d_source_of [] (ACons (TV 12) (ANil))) [12]))) (GT 2 (GCons (GN 10) (GCons (GN 11) (GNil)))) SB) (SExpr (TM tyL appD (TV 7) (ACons (TCl W d_best_of [] (ACons (TV 0) (ACons (TF 9) (ANil)))) (ANil))))))
theorem step_reg {g : Bool} {W : DXr} {row : Row} {amt : Int} {v1 v2 v5 v6 a b c v12 : Sl} {t : List Str} {fs : List P} {S : Store} {Dn : DEnds} {n : Nat} (hn : n ≤ 6) (hrow : row.length = n) (ht : t.Sublist (known n)) (hf : fs.length < 1000)
    (h : ∀ a b c, Dn.nx [.v (.str (sideS g)), v1, v2, .v (.int amt), .v (.dct ((heldOf row).map pairP)), v5, v6, .own (.lst (fs ++ [oiP (bestI g (t.filterMap (termVal row amt)))])), .v (tupS t), a, b, c, .un] S) :
    SBO W Dn [.v (.str (sideS g)), v1, v2, .v (.int amt), .v (.dct ((heldOf row).map pairP)), v5, v6, .own (.lst fs), .v (tupS t), a, b, c, v12] S := by
  have tl : t.length ≤ 14 := Nat.le_trans ht.length_le (known_len hn)
  refine seq_do ?_
  simp only [SOwn, NLst, ANil, vals]
  refine ⟨szN (by decide), seq_do ?_⟩
  simp only [SFor, ISeq, TFz, NLc, TV, List.set_cons_succ, List.set_cons_zero, List.getElem?_cons_succ, List.getElem?_cons_zero, asI]
  refine ⟨szN (by simp; omega), ?_⟩
  refine comp_map (fun p => match p with | .str s => tkP s | p => p) _ _ (fun p hp K k => ?_) ?_
  · obtain ⟨x, hx, rfl⟩ := List.mem_map.mp hp
    simp only [GN, TCl, ACons, ANil, TV, vals, wipeE, List.set_cons_succ, List.set_cons_zero, List.getElem?_cons_succ, List.getElem?_cons_zero, Option.map_some]
    refine s_source_of ?_
    exact k _ rfl
  · have e : ([] : List P) ++ (strL t).map (fun p => match p with | .str s => tkP s | p => p) = t.map tkP := by
      rw [List.nil_append, List.map_map]; rfl
    rw [e]
    simp only [frzO, asI, wipeE, List.set_cons_succ, List.set_cons_zero]
    refine terms_loop t [] _ _ (by simp; omega) (fun x hx => by rw [hrow]; exact src_known hn (ht.subset hx)) fun a b => ?_
    simp only [SExpr, TM, TV, TF, ACons, ANil, TCl, vals, List.nil_append, List.set_cons_succ, List.set_cons_zero, List.getElem?_cons_succ, List.getElem?_cons_zero, Option.map_some, List.append_nil]
    refine ⟨rfl, ?_⟩
    rw [oi_ints]
    refine s_best_of (by simp; exact Nat.le_trans (List.length_filterMap_le _ _) (by omega)) ?_
    rw [flt_some]
    simp only [appD, wrL, List.set_cons_succ, List.set_cons_zero, List.getElem?_cons_succ, List.getElem?_cons_zero]
    exact ⟨szN (by omega), h _ _ _⟩
theorem s_stepped {g : Bool} {rule : List (List Str)} {row : Row} {amt : Int} {n : Nat} {S : Store} {Q : P → Store → Prop} {E : DX} (hn : n ≤ 6) (hrow : row.length = n) (hl : rule.length = n) (ht : ∀ t ∈ rule, t.Sublist (known n)) (h : Q (.tup (oiL (stepF g rule row amt))) S) :
    d_stepped [.str (sideS g), ruleP rule, .tup (oiL row), .int amt] S Q E := by
  refine ⟨rfl, ?_⟩
  refine seq_do (asg_do ?_)
  have h6 : row.length ≤ 6 := by omega
  simp only [TOr2, TFz, NDct, prsD, TC, TV, frzO, startE, N_stepped, List.map_cons, List.map_nil, List.cons_append, List.nil_append, List.length_cons, List.length_nil, List.replicate, NDc, IZs, A2k, ACons, ANil, List.getElem?_cons_succ, List.getElem?_cons_zero, asI]
  have zl : (zipP (strL slots) (oiL row)).length ≤ 6 := by
    unfold zipP; rw [List.length_zipWith]; simp [slots]; omega
  refine ⟨rfl, by decide, (fun z => nomatch z), szN (Nat.le_trans zl (by decide)), ?_⟩
  refine dc_pure fstP sndP _ _ (fun p hp => ?_) ?_
  · have : ∃ (s : Str) (x : Option Int), p = .row [.str s, oiP x] := by
      unfold zipP at hp
      obtain ⟨i, hi⟩ := List.mem_iff_getElem?.mp hp
      rw [List.getElem?_zipWith] at hi
      have e1 : (strL slots)[i]? = (slots[i]?).map P.str := List.getElem?_map ..
      have e2 : (oiL row)[i]? = (row[i]?).map oiP := List.getElem?_map ..
      rw [show ([.str "r0", .str "r1", .str "r2", .str "r3", .str "r4", .str "r5"] : List P) = strL slots from rfl, e1, e2] at hi
      cases a1 : slots[i]? with
      | none => rw [a1] at hi; cases hi
      | some s =>
        cases a2 : row[i]? with
        | none => rw [a1, a2] at hi; cases hi
        | some x => rw [a1, a2] at hi; cases hi; exact ⟨s, x, rfl⟩
    obtain ⟨s, x, rfl⟩ := this
    refine ⟨rfl, fun K k => ?_⟩
    simp only [GT, GCons, GN, GNil, TV, wipeE, List.set_cons_succ, List.set_cons_zero, List.getElem?_cons_succ, List.getElem?_cons_zero]
    exact ⟨rfl, rfl, k _ rfl⟩
  · have e := held_eq (row := row) h6
    have fl := fold_len fstP sndP (zipP (strL slots) (oiL row)) []
    simp only [orD, asDc]
    refine ⟨szN ?_, ?_⟩
    · have : (mergeP [] [((.str "0" : P), (.int 0 : P))]).length = 1 := rfl
      show (mergeP [] [((.str "0" : P), (.int 0 : P))]).length + (List.foldl (fun (a : List (P × P)) p => putP a (fstP p) (sndP p)) [] (zipP (strL slots) (oiL row))).length ≤ _
      rw [this]
      have := Nat.le_trans fl (show (0 : Nat) + _ ≤ 6 by simpa using zl)
      omega
    · have e' : mergeP (mergeP [] [((.str "0" : P), (.int 0 : P))]) (List.foldl (fun a p => putP a (fstP p) (sndP p)) [] (zipP [.str "r0", .str "r1", .str "r2", .str "r3", .str "r4", .str "r5"] (oiL row))) = (heldOf row).map pairP := e
      rw [e']
      simp only [GN, wipeE, List.set_cons_succ, List.set_cons_zero]
      refine seq_do ?_
      simp only [SOwn, NLst, ANil, vals, List.set_cons_succ, List.set_cons_zero]
      refine ⟨szN (by decide), seq_do ?_⟩
      simp only [SFor, ISeq, TV, List.getElem?_cons_succ, List.getElem?_cons_zero, asI]
      refine for_i (fun pre ρ S' => S' = S ∧ ∃ v8 a b c, ρ = [.v (.str (sideS g)), .v (ruleP rule), .v (.tup (oiL row)), .v (.int amt), .v (.dct ((heldOf row).map pairP)), .un, .un, .own (.lst (oiL (stepF g (rule.take pre.length) row amt))), v8, a, b, c, .un]) (fun pre p post e ρ S' ⟨hS, v8, a, b, c, hρ⟩ D' h1 h2 h3 h4 => ?_) ⟨rfl, _, _, _, _, rfl⟩ fun ρ S' ⟨hS, v8, a, b, c, hρ⟩ => ?_
      · subst hS hρ
        have hp : (rule.map tupS)[pre.length]? = some p := by rw [e]; simp
        rw [List.getElem?_map] at hp
        obtain ⟨x, hx, rfl⟩ := Option.map_eq_some_iff.mp hp
        have hx2 : pre.length < rule.length := (List.getElem?_eq_some_iff.mp hx).1
        simp only [GN, List.set_cons_succ, List.set_cons_zero]
        refine step_reg hn hrow (ht x (List.mem_of_getElem? hx)) (by simp [stepF]; omega) fun a b c => h1 _ _ ⟨rfl, .v (tupS x), a, b, c, ?_⟩
        rw [List.length_append, List.length_singleton, List.take_succ, hx]
        simp [stepF]
      · subst hS hρ
        have e2 : rule.take (rule.map tupS).length = rule := by rw [List.length_map, List.take_length]
        rw [e2]
        simp only [SRet, TCall, ACons, ANil, TV, List.getElem?_cons_succ, List.getElem?_cons_zero, tupD, asQ, asL]
        exact h
end K08
/-! PG: a statistic called with a log. -/
namespace K08
open PySem PySem.Spec L2 D
/-! ### events, logs -/
abbrev evP (e : Str × Int) : P := .tup [.str e.1, .int e.2]
abbrev logP (l : List (Str × Int)) : P := .tup (l.map evP)
structure EvOk (ks : List Str) (e : Str × Int) : Prop where
  m : e.1 ∈ ks
  k : isKindS e.1 = true
  lo : -1000000000000000000000000000000 ≤ e.2
  hi : e.2 ≤ 1000000000000000000000000000000
theorem s_is_amount {i : Int} {S : Store} {Q : P → Store → Prop} {E : DX} (h1 : -1000000000000000000000000000000 ≤ i) (h2 : i ≤ 1000000000000000000000000000000) (h : Q (.bl true) S) : d_is_amount [.int i] S Q E := by
  refine ⟨rfl, ?_⟩
  refine s_is_integer ?_
  simp only [truD]
  show match P.bl (decide (-1000000000000000000000000000000 ≤ i)) with
    | .bl true => Q (.bl (decide (i ≤ 1000000000000000000000000000000))) S
    | .bl false => Q (.bl false) S
    | _ => False
  rw [decide_eq_true h1, decide_eq_true h2]
  exact h
theorem s_is_event {ks : List Str} {e : Str × Int} {S : Store} {Q : P → Store → Prop} {E : DX} (o : EvOk ks e) (h : Q (.bl true) S) : d_is_event [evP e] S Q E := by
  refine ⟨rfl, ?_⟩
  simp [T_is_event, SRet, TAnd, TCall, ACons, ANil, TV, TC, isiD, tyN, isB, isKnown, truD, startE, N_is_event, lenD, asQ, T2, eqD, asD, eqP_int, eqOk_int, TCl, ixD, atI, ixN, vals]
  refine s_is_kind ?_
  rw [o.k]
  refine s_is_amount o.lo o.hi ?_
  exact h
theorem s_first_wrong {ks : List Str} {l : List (Str × Int)} {S : Store} {Q : P → Store → Prop} {E : DX} (hl : l.length ≤ 1000) (ho : ∀ e ∈ l, EvOk ks e) (h : Q .non S) : d_first_wrong [logP l, .tup (strL ks)] S Q E := by
  refine ⟨rfl, ?_⟩
  have c : ¬ (1000 : Int) < l.length := by omega
  simp [T_first_wrong, SSeq, SIf, BOr, BNot, BTru, B2, T2, TCall, ACons, ANil, TV, TC, isiD, tyN, isB, isKnown, truD, startE, N_first_wrong, lenD, asQ, ordD, c, SNext, SFor, IEn, asI]
  refine for_i (fun pre ρ S' => S' = S ∧ ∃ a b, ρ = [.v (logP l), .v (.tup (strL ks)), a, b]) (fun pre p post e ρ S' ⟨hS, a, b, hρ⟩ D' h1 h2 h3 h4 => ?_) ⟨rfl, _, _, rfl⟩ fun ρ S' ⟨hS, a, b, hρ⟩ => ?_
  · subst hS hρ
    obtain ⟨q, hq, rfl⟩ := enumP_get e
    rw [List.getElem?_map] at hq
    obtain ⟨x, hx, rfl⟩ := Option.map_eq_some_iff.mp hq
    have o := ho x (List.mem_of_getElem? hx)
    simp [GT, GCons, GN, GNil, BOr, BNot, BTru, TCl, ACons, TV, ANil, vals, BAnd, B2, T2, TC, nisD, _root_.D.isNon, ixD, asQ, atI, ixN]
    refine s_is_event o ?_
    simp [truD, ninD, asD, asQ]
    refine ⟨rfl, isEs_strL _, Nat.zero_le _, ?_⟩
    rw [memP_strL, decide_eq_true o.m]
    exact h1 _ _ ⟨rfl, _, _, rfl⟩
  · subst hS hρ
    exact h
theorem s_check_log {ks : List Str} {l : List (Str × Int)} {S : Store} {Q : P → Store → Prop} {E : DX} (hl : l.length ≤ 1000) (ho : ∀ e ∈ l, EvOk ks e) (h : Q .non S) : d_check_log [logP l, .tup (strL ks)] S Q E := by
  refine ⟨rfl, ?_⟩
  simp only [T_check_log, SIf, BW, TCl, ACons, ANil, TV, vals, startE, N_check_log, List.map_cons, List.map_nil, List.cons_append, List.nil_append, List.getElem?_cons_succ, List.getElem?_cons_zero, Option.map_some]
  refine s_first_wrong hl ho ?_
  simp [TC, nisD, _root_.D.isNon, SNext]
  exact h
/-! ### the rule of a kind -/
/-! ### what is read out -/
def rowAt (row : Row) (e : Str) : Option Int := match (slots.zip row).lookup e with
  | some x => x
  | none => none
def resF (g : Bool) (ends : List Str) (row : Row) : Option Int := bestI g (ends.filterMap (rowAt row))
theorem slot_int : ∀ i : Nat, i < 6 → ∃ s : Str, slots[i]? = some s ∧ intText? (cutS s (some 1) none) = some (i : Int) ∧ (cutS s (some 1) none).length ≤ 640 := by
  intro i hi
  match i, hi with
  | 0, _ => exact ⟨_, rfl, by decide +kernel, by decide +kernel⟩
  | 1, _ => exact ⟨_, rfl, by decide +kernel, by decide +kernel⟩
  | 2, _ => exact ⟨_, rfl, by decide +kernel, by decide +kernel⟩
  | 3, _ => exact ⟨_, rfl, by decide +kernel, by decide +kernel⟩
  | 4, _ => exact ⟨_, rfl, by decide +kernel, by decide +kernel⟩
  | 5, _ => exact ⟨_, rfl, by decide +kernel, by decide +kernel⟩
  | n + 6, h => omega
theorem slot_row {row : Row} {i : Nat} {s : Str} {c : Option Int} (hs : slots[i]? = some s) (hc : row[i]? = some c) : rowAt row s = c := by
  have key : ∀ (ks : List Str) (r : Row) (i : Nat), ks.Nodup → ks[i]? = some s → r[i]? = some c → (ks.zip r).lookup s = some c := by
    intro ks
    induction ks with
    | nil => intro r i _ h; simp at h
    | cons k ks ih =>
      intro r i nd h1 h2
      cases r with
      | nil => simp at h2
      | cons x r =>
        rw [List.zip_cons_cons, List.lookup_cons]
        cases i with
        | zero =>
          simp at h1 h2
          subst h1 h2
          simp
        | succ i =>
          simp at h1 h2
          have nk : s ≠ k := fun e => by
            subst e
            exact (List.nodup_cons.mp nd).1 (List.mem_of_getElem? h1)
          have c' : (s == k) = false := by simpa using nk
          rw [c']
          exact ih r i (List.nodup_cons.mp nd).2 h1 h2
  unfold rowAt
  rw [key slots row i (by decide) hs hc]
theorem s_read_out {g : Bool} {ends : List Str} {row : Row} {n : Nat} {S : Store} {Q : P → Store → Prop} {E : DX} (hn : n ≤ 6) (hrow : row.length = n) (he : ends.Sublist (slots.take n)) (h : Q (oiP (resF g ends row)) S) :
    d_read_out [.str (sideS g), .tup (strL ends), .tup (oiL row)] S Q E := by
  refine ⟨rfl, ?_⟩
  have el : ends.length ≤ 6 := Nat.le_trans he.length_le (by rw [List.length_take]; omega)
  simp only [T_read_out, SRet, TCl, ACons, ANil, TV, TFz, NLc, ISeq, startE, N_read_out, List.map_cons, List.map_nil, List.cons_append, List.nil_append, List.length_cons, List.length_nil, List.replicate, List.getElem?_cons_succ, List.getElem?_cons_zero, asI]
  refine ⟨szN (by simp; omega), ?_⟩
  refine comp_map (fun p => match p with | .str s => oiP (rowAt row s) | p => p) _ _ (fun p hp K k => ?_) ?_
  · obtain ⟨x, hx, rfl⟩ := List.mem_map.mp hp
    have hx2 := he.subset hx
    obtain ⟨i, hi⟩ := List.mem_iff_getElem?.mp hx2
    have hi6 : i < n ∧ i < 6 := by
      have := (List.getElem?_eq_some_iff.mp hi).1; rw [List.length_take, show slots.length = 6 from rfl] at this
      omega
    obtain ⟨s, s1, s2, s3⟩ := slot_int i hi6.2
    rw [List.getElem?_take_of_lt hi6.1, s1] at hi
    cases hi
    have hc : row[i]? = some (row[i]'(by omega)) := List.getElem?_eq_getElem _
    have e1 : atI (oiL row) (i : Int) = some (oiP (row[i]'(by omega))) := by
      rw [atNat (by omega) (by simp; omega)]
      simp
    have k' := k [.v (.str (sideS g)), .v (.tup (strL ends)), .v (.tup (oiL row)), .v (.str x)] rfl
    simp only [slot_row s1 hc] at k'
    simp only [GN, T2, TV, TCall, TSl, OPart, ONo, ACons, ANil, TC, slD, wipeE, List.set_cons_succ, List.set_cons_zero, List.getElem?_cons_succ, List.getElem?_cons_zero, intD, s2]
    refine ⟨s3, ?_⟩
    simp only [ixD, asQ, e1]
    exact k'
  · have e : ([] : List P) ++ (strL ends).map (fun p => match p with | .str s => oiP (rowAt row s) | p => p) = oiL (ends.map (rowAt row)) := by
      rw [List.nil_append, List.map_map]
      show _ = List.map oiP (List.map (rowAt row) ends)
      rw [List.map_map]; rfl
    rw [e]
    simp only [frzO, vals, Option.map_some, List.append_nil]
    refine s_best_of (by simp; omega) ?_
    rw [List.filterMap_map]
    exact h
/-! ### a log -/
def ruleOf (s : Stc) (k : Str) : List (List Str) := match (s.kinds.zip s.rules).lookup k with
  | some r => r
  | none => []
def runF (s : Stc) (l : List (Str × Int)) : Row := l.foldl (fun row e => stepF s.side (ruleOf s e.1) row e.2) s.start
def callF (s : Stc) (l : List (Str × Int)) : Option Int := resF s.side s.ends (runF s l)
theorem rule_at {s : Stc} (o : Ok s) {i : Nat} {k : Str} {r : List (List Str)} (hk : s.kinds[i]? = some k) (hr : s.rules[i]? = some r) : ruleOf s k = r := by
  have key : ∀ (ks : List Str) (rs : List (List (List Str))) (i : Nat), Asc ks → ks[i]? = some k → rs[i]? = some r → (ks.zip rs).lookup k = some r := by
    intro ks
    induction ks with
    | nil => intro r i _ h; simp at h
    | cons a ks ih =>
      intro rs i nd h1 h2
      cases rs with
      | nil => simp at h2
      | cons x rs =>
        rw [List.zip_cons_cons, List.lookup_cons]
        cases i with
        | zero =>
          simp at h1 h2
          subst h1 h2
          simp
        | succ i =>
          simp at h1 h2
          have nk : k ≠ a := fun e => by
            subst e
            have := (List.pairwise_cons.mp nd).1 _ (List.mem_of_getElem? h1)
            rw [ltS_irrefl] at this
            cases this
          have c' : (k == a) = false := by simpa using nk
          rw [c']
          exact ih rs i (List.pairwise_cons.mp nd).2 h1 h2
  unfold ruleOf
  rw [key s.kinds s.rules i o.ka hk hr]
theorem step_len (g : Bool) (rule : List (List Str)) (row : Row) (a : Int) : (stepF g rule row a).length = rule.length := List.length_map ..
theorem s_call {s : Stc} {l : List (Str × Int)} {S : Store} {Q : P → Store → Prop} {E : DX} (o : Ok s) (hl : l.length ≤ 1000) (ho : ∀ e ∈ l, EvOk s.kinds e) (h : Q (oiP (callF s l)) S) : d_Statistic___call__ [stP s, logP l] S Q E := by
  refine ⟨rfl, ?_⟩
  refine seq_do ?_
  simp only [SExpr, TCl, ACons, ANil, TV, TAtt, startE, N_Statistic___call__, List.map_cons, List.map_nil, List.cons_append, List.nil_append, List.length_cons, List.length_nil, List.replicate, List.getElem?_cons_succ, List.getElem?_cons_zero]
  refine a_kinds ?_
  simp only [vals, Option.map_some, List.append_nil]
  refine s_check_log hl ho (seq_do (asg_do ?_))
  simp only [TAtt, TV, List.getElem?_cons_succ, List.getElem?_cons_zero]
  refine a_start ?_
  simp only [GN, List.set_cons_succ, List.set_cons_zero]
  refine seq_do ?_
  simp only [SFor, ISeq, TV, List.getElem?_cons_succ, List.getElem?_cons_zero, asI]
  refine for_i (fun pre ρ S' => S' = S ∧ (runF s (l.take pre.length)).length = s.start.length ∧ ∃ a b, ρ = [.v (stP s), .v (logP l), .v (.tup (oiL (runF s (l.take pre.length)))), a, b]) (fun pre p post e ρ S' ⟨hS, hlen, a, b, hρ⟩ D' h1 h2 h3 h4 => ?_) ⟨rfl, rfl, _, _, rfl⟩ fun ρ S' ⟨hS, hlen, a, b, hρ⟩ => ?_
  · subst hS hρ
    have hp : (l.map evP)[pre.length]? = some p := by rw [e]; simp
    rw [List.getElem?_map] at hp
    obtain ⟨x, hx, rfl⟩ := Option.map_eq_some_iff.mp hp
    have ox := ho x (List.mem_of_getElem? hx)
    obtain ⟨i, hi⟩ := List.mem_iff_getElem?.mp ox.m
    have hi' : i < s.rules.length := by rw [o.rl]; exact (List.getElem?_eq_some_iff.mp hi).1
    have hr : s.rules[i]? = some (s.rules[i]'hi') := List.getElem?_eq_getElem hi'
    obtain ⟨r1, r2⟩ := o.rn _ (List.mem_of_getElem? hr)
    simp only [GT, GCons, GN, GNil, List.set_cons_succ, List.set_cons_zero, SAsg, TCl, ACons, ANil, TAtt, TV, T2, List.getElem?_cons_succ, List.getElem?_cons_zero]
    refine ⟨rfl, a_SIDE ?_⟩
    simp only [List.getElem?_cons_succ, List.getElem?_cons_zero, ixX, ins_st, spD]
    have key : ∀ c : Str, c = "Greatest" ∨ c = "Least" → tsp___getitem__.lookup c = some d_Statistic___getitem__ := by
      rintro c (rfl | rfl) <;> rfl
    rw [key _ (name_cases s.side)]
    refine s_getitem o hi hr ⟨rfl, ?_⟩
    simp only [vals, Option.map_some, List.append_nil]
    refine s_stepped o.s6 hlen r1 r2 ?_
    have en : runF s (l.take (pre.length + 1)) = stepF s.side (s.rules[i]'hi') (runF s (l.take pre.length)) x.2 := by
      rw [List.take_succ, hx]
      unfold runF
      rw [List.foldl_append]
      show stepF s.side (ruleOf s x.1) _ _ = _
      rw [rule_at o hi hr]
    refine h1 _ _ ⟨rfl, ?_, .v (.str x.1), .v (.int x.2), ?_⟩
    · rw [List.length_append, List.length_singleton, en, step_len, r1]
    · rw [List.length_append, List.length_singleton, en]
      rfl
  · subst hS hρ
    have e2 : l.take (l.map evP).length = l := by rw [List.length_map, List.take_length]
    rw [e2] at hlen ⊢
    simp only [SRet, TCl, ACons, ANil, TAtt, TV, List.getElem?_cons_succ, List.getElem?_cons_zero]
    refine a_SIDE (a_ends ?_)
    simp only [vals, Option.map_some, List.append_nil]
    exact s_read_out o.s6 hlen o.es h
end K08
/-! PH: statistics drawn by the law. -/
namespace K08
open PySem PySem.Spec L2 D
theorem comp_rel {α : Type} {g : DG} {te : DT} {vs : List Nat} {Q : List P → D.Env → Store → Prop} {ρ : D.Env} {ps : List P} {S : Store} (f : α → P) (C : P → α → Prop) (J : Store → Prop)
    (step : ∀ p ∈ ps, ∀ S, J S → ∀ K : P → D.Env → Store → Prop, (∀ x ρ' S', C p x → J S' → wipeE ρ' vs = ρ → K (f x) ρ' S') → g p ρ S fun ρ2 S2 => te ρ2 S2 fun r ρ4 S4 => match r with
      | .v y => K y ρ4 S4
      | .loc _ => False) (h : J S) (fin : ∀ (xs : List α) S', xs.length = ps.length → (∀ x ∈ xs, ∃ p ∈ ps, C p x) → J S' → Q (xs.map f) ρ S') : compL Tr g BYes te vs Q ps [] ρ S := by
  refine comp_g (fun pre acc S' => J S' ∧ ∃ xs : List α, acc = xs.map f ∧ xs.length = pre.length ∧ ∀ x ∈ xs, ∃ p ∈ ps, C p x) (fun pre p post e acc S1 ⟨hJ, xs, e1, e2, e3⟩ K k => ?_) ⟨h, [], rfl, rfl, fun x hx => nomatch hx⟩ fun acc S1 ⟨hJ, xs, e1, e2, e3⟩ => by subst e1; exact fin xs S1 e2 e3 hJ
  have hp : p ∈ ps := by rw [e]; simp
  simp only [BYes, if_true]
  refine step p hp S1 hJ (fun y ρ4 S4 => K (acc ++ [y]) ρ4 S4) fun x ρ' S' hx hJ' e' => k _ _ _ ⟨hJ', xs ++ [x], by rw [e1, List.map_append]; rfl, by simp [e2], fun z hz => ?_⟩ e'
  rcases (List.mem_append.mp hz) with hz | hz
  · exact e3 z hz
  · rw [List.mem_singleton.mp hz]; exact ⟨p, hp, hx⟩
theorem comp_sub {α : Type} {g : DG} {tt : DB} {te : DT} {vs : List Nat} {Q : List P → D.Env → Store → Prop} {ρ : D.Env} {xs : List α} {S : Store} (f : α → P) (J : Store → Prop)
    (step : ∀ x ∈ xs, ∀ S, J S → ∀ (K : List P → D.Env → Store → Prop) (acc : List P), (∀ ρ' S', J S' → wipeE ρ' vs = ρ → K (acc ++ [f x]) ρ' S' ∧ K acc ρ' S') → g (f x) ρ S fun ρ2 S2 => tt ρ2 S2 fun b ρ3 S3 => if b = true then te ρ3 S3 fun r ρ4 S4 => match r with
        | .v y => K (acc ++ [y]) ρ4 S4
        | .loc _ => False
      else K acc ρ3 S3) (h : J S) (fin : ∀ (ys : List α) S', ys.Sublist xs → J S' → Q (ys.map f) ρ S') : compL Tr g tt te vs Q (xs.map f) [] ρ S := by
  refine comp_g (fun pre acc S' => J S' ∧ ∃ ys : List α, acc = ys.map f ∧ ys.Sublist (xs.take pre.length)) (fun pre p post e acc S1 ⟨hJ, ys, e1, e2⟩ K k => ?_) ⟨h, [], rfl, List.nil_sublist _⟩ fun acc S1 ⟨hJ, ys, e1, e2⟩ => by
    subst e1
    rw [List.length_map, List.take_length] at e2
    exact fin ys S1 e2 hJ
  have hp : (xs.map f)[pre.length]? = some p := by rw [e]; simp
  rw [List.getElem?_map] at hp
  obtain ⟨x, hx, rfl⟩ := Option.map_eq_some_iff.mp hp
  have ht : xs.take (pre ++ [f x]).length = xs.take pre.length ++ [x] := by
    rw [List.length_append, List.length_singleton, List.take_succ, hx]; rfl
  exact step x (List.mem_of_getElem? hx) S1 hJ K acc fun ρ' S' hJ' e' =>
    ⟨k _ _ _ ⟨hJ', ys ++ [x], by simp [e1], by rw [ht]; exact List.Sublist.append e2 (List.Sublist.refl _)⟩ e', k _ _ _ ⟨hJ', ys, e1, by rw [ht]; exact e2.trans (List.sublist_append_left _ _)⟩ e'⟩
/-! ### names -/
def slotN (k : Nat) : Str := slots.getD k "r0"
theorem slot_lt : ∀ k : Nat, k < 6 → (("r" : Str) ++ numS (k : Int) = slotN k ∧ slots[k]? = some (slotN k) ∧ (k : Int).natAbs.log2 < 1920) := by decide +kernel
theorem slot_len (k : Nat) : (slotN k).length = 2 := by
  unfold slotN
  match k with
  | 0 | 1 | 2 | 3 | 4 | 5 => rfl
  | n + 6 => rfl
theorem withX_len (s : Str) : (withX s).length = s.length + 2 := by unfold withX; rw [cat_len]; rfl
theorem num_len {k : Nat} (h : k < 6) : (numS (k : Int)).length = 1 := by
  have : ∀ k : Nat, k < 6 → (numS (k : Int)).length = 1 := by decide +kernel
  exact this k h
/-- "r" + str(k) -/
theorem t_slot {ρ : D.Env} {S : Store} {i k : Nat} {Q : DQ} (hk : k < 6) (hi : ρ[i]? = some (.v (.int k))) (h : Q (.v (.str (slotN k))) ρ S) : T2 addD (TC (P.str "r")) (TCall strD (ACons (TV i) (ANil))) ρ S Q := by
  obtain ⟨e1, e2, e3⟩ := slot_lt k hk
  simp only [T2, TC, TCall, ACons, ANil, TV, hi, strD]
  refine ⟨e3, ?_⟩
  simp only [addD]
  refine ⟨szN ?_, ?_⟩
  · rw [num_len hk]; decide
  · rw [e1]; exact h
theorem s_lterms {n : Nat} {S : Store} {Q : P → Store → Prop} {E : DX} (hn : n ≤ 6) (h : Q (.lst (strL (known n))) S) : d__law_terms [.int n] S Q E := by
  refine ⟨rfl, ?_⟩
  refine seq_do (asg_do ?_)
  simp only [TLst, ACons, ANil, TC, vals, Option.map_some, startE, N__law_terms, List.map_cons, List.map_nil, List.cons_append, List.nil_append, List.length_cons, List.length_nil, List.replicate]
  refine ⟨szN (by decide), ?_⟩
  simp only [GN, List.set_cons_succ, List.set_cons_zero]
  refine seq_do ?_
  simp only [SFor, IR1, ACons, ANil, TV, List.getElem?_cons_succ, List.getElem?_cons_zero]
  refine ⟨⟨by omega, by omega⟩, ?_⟩
  refine for_i (fun pre ρ S' => S' = S ∧ ∃ a, ρ = [.v (.int n), .v (.lst (strL (("0" : Str) :: twos (slots.take pre.length)))), a]) (fun pre p post e ρ S' ⟨hS, a, hρ⟩ D' h1 h2 h3 h4 => ?_) ⟨rfl, _, rfl⟩ fun ρ S' ⟨hS, a, hρ⟩ => ?_
  · subst hS hρ
    have hp : (rangeP 0 (Int.toNat n))[pre.length]? = some p := by rw [e]; simp
    have hk : pre.length < n := by
      have := (List.getElem?_eq_some_iff.mp hp).1
      unfold rangeP at this
      simpa using this
    rw [rangeP_get (by simpa using hk)] at hp
    cases hp
    have h6 : pre.length < 6 := by omega
    rw [show (0 : Int) + ((pre.length : Nat) : Int) = (pre.length : Int) by omega]
    simp only [GN, List.set_cons_succ, List.set_cons_zero]
    refine asg_do (t2_do ?_)
    simp only [TV, List.getElem?_cons_succ, List.getElem?_cons_zero]
    refine lst2_do (t_slot h6 rfl (t2_do (t_slot h6 rfl ?_)))
    simp only [TC, addD, vals, Option.map_some]
    have tl : (twos (slots.take pre.length)).length ≤ 12 := by
      rw [twos_len, List.length_take]; have : slots.length = 6 := rfl; omega
    refine ⟨szN ?_, szN ?_, ?_⟩
    · rw [slot_len]; decide
    · show (2 : Nat) ≤ 10000000; decide
    · refine ⟨strL (("0" : Str) :: twos (slots.take pre.length)), [.str (slotN pre.length), .str (slotN pre.length ++ "+x")], rfl, rfl, szN ?_, ?_⟩
      · simp; omega
      · refine h1 _ _ ⟨rfl, .v (.int pre.length), ?_⟩
        rw [List.length_append, List.length_singleton, List.take_succ, (slot_lt _ h6).2.1, Option.toList_some, twos_app]
        simp [twos, withX]
  · subst hS hρ
    have e2 : (rangeP 0 (Int.toNat n)).length = n := by unfold rangeP; simp
    rw [e2]
    simp only [SRet, T2, TV, TLst, ACons, ANil, TC, vals, Option.map_some, List.getElem?_cons_succ, List.getElem?_cons_zero, addD]
    have tl : (twos (slots.take n)).length ≤ 12 := by
      rw [twos_len, List.length_take]; have : slots.length = 6 := rfl; omega
    refine ⟨szN (by decide), strL (("0" : Str) :: twos (slots.take n)), [.str "x"], rfl, rfl, szN ?_, ?_⟩
    · simp; omega
    · simpa [known] using h
theorem sub_of {n : Nat} {t : List Str} (h : t.isSublist (known n) = true) : t.Sublist (known n) := List.isSublist_iff_sublist.mp h
theorem some_sub {n k : Nat} (hn : n ≤ 6) (hk : k < n) : [slotN k].Sublist (known n) ∧ [withX (slotN k)].Sublist (known n) ∧ [withX (slotN k), ("x" : Str)].Sublist (known n) ∧ [("0" : Str)].Sublist (known n) := by
  have : ∀ n : Nat, n < 7 → ∀ k : Nat, k < n → ([slotN k].isSublist (known n) && ([withX (slotN k)].isSublist (known n) && ([withX (slotN k), ("x" : Str)].isSublist (known n) && [("0" : Str)].isSublist (known n)))) = true := by decide +kernel
  have := this n (by omega) k hk
  simp only [Bool.and_eq_true] at this
  exact ⟨sub_of this.1, sub_of this.2.1, sub_of this.2.2.1, sub_of this.2.2.2⟩
theorem s_lsome {a : Addr} {n k : Nat} {S : Store} {Q : P → Store → Prop} {E : DX} (hS : PoolAt S a) (hn : n ≤ 6) (hk : k < n) (h : ∀ (t : List Str) S', t.Sublist (known n) → PoolAt S' a → Q (tupS t) S') : d__law_some [.ref a, .int n, .int k] S Q E := by
  refine ⟨rfl, ?_⟩
  obtain ⟨k1, k2, k3, k4⟩ := some_sub hn hk
  refine seq_do (asg_do ?_)
  simp only [startE, N__law_some, List.map_cons, List.map_nil, List.cons_append, List.nil_append, List.length_cons, List.length_nil, List.replicate]
  refine tup2_do (t_slot (k := k) (by omega) rfl ?_)
  simp only [TCl, ACons, ANil, TV, TC, vals, Option.map_some, List.append_nil, List.getElem?_cons_succ, List.getElem?_cons_zero]
  refine s_draw hS (by decide) (by decide) fun r S1 r0 r1 hS1 => ?_
  simp only [vals, Option.map_some, GT, GCons, GN, GNil, List.set_cons_succ, List.set_cons_zero]
  refine ⟨szN (by show (2 : Nat) ≤ 10000000; decide), rfl, seq_do ?_⟩
  simp only [SIf, B2, T2, TV, TC, ordD, List.getElem?_cons_succ, List.getElem?_cons_zero]
  by_cases c : r < 5
  · simp only [c, decide_true, if_true, SRet, T2, TLst, TTup, ACons, ANil, TV, TC, vals, Option.map_some, addD, List.getElem?_cons_succ, List.getElem?_cons_zero]
    have sl := slot_len k
    have x2 : ("+x" : Str).length = 2 := rfl
    refine ⟨szN (by show (1 : Nat) ≤ 10000000; decide), szN (by omega), szN (by show (1 : Nat) ≤ 10000000; decide), szN (by omega), szN (by show (2 : Nat) ≤ 10000000; decide), szN (by show (1 : Nat) ≤ 10000000; decide), szN (by show (0 : Nat) ≤ 10000000; decide), szN (by show (5 : Nat) ≤ 10000000; decide), ?_⟩
    have h5 : r = 0 ∨ r = 1 ∨ r = 2 ∨ r = 3 ∨ r = 4 := by omega
    rcases h5 with rfl | rfl | rfl | rfl | rfl
    · exact h [slotN k] S1 k1 hS1
    · exact h [withX (slotN k)] S1 k2 hS1
    · exact h [withX (slotN k), "x"] S1 k3 hS1
    · exact h ["0"] S1 k4 hS1
    · exact h [] S1 (List.nil_sublist _) hS1
  · simp only [c, decide_false, Bool.false_eq_true, if_false, SNext]
    refine seq_do (asg_do ?_)
    simp only [TCl, ACons, ANil, TV, vals, Option.map_some, List.append_nil, List.getElem?_cons_succ, List.getElem?_cons_zero]
    refine s_lterms hn ?_
    have kl : (known n).length ≤ 14 := known_len hn
    have kp : 0 < (known n).length := by unfold known; simp
    simp only [GN, SRet, TCall, ACons, ANil, TFz, NLc, ISeq, TV, List.set_cons_succ, List.set_cons_zero, List.getElem?_cons_succ, List.getElem?_cons_zero, asI]
    refine ⟨szN (by simp; omega), ?_⟩
    refine comp_sub P.str (fun S => PoolAt S a) (fun x hx S2 hS2 K acc kk => ?_) hS1 fun ys S2 hy hS2 => ?_
    · simp only [GN, B2, T2, TCl, TCall, ACons, ANil, TV, TC, wipeE, List.set_cons_succ, List.set_cons_zero, List.getElem?_cons_succ, List.getElem?_cons_zero, lenD, asQ, asL, vals, Option.map_some, List.append_nil]
      refine s_draw hS2 (by simp; omega) (by simp; omega) fun r S3 _ _ hS3 => ?_
      obtain ⟨q1, q2⟩ := kk [.v (.ref a), .v (.int n), .v (.int k), .v (.str (slotN k)), .v (.int _), .v (.lst (strL (known n))), .v (.str x)] S3 hS3 rfl
      simp only [ordD]
      by_cases c3 : r < 3
      · simp only [c3, decide_true, if_true]
        exact q1
      · simp only [c3, decide_false, Bool.false_eq_true, if_false]
        exact q2
    · simp only [frzO, tupD, asQ, asL]
      exact h ys S2 hy hS2
end K08
/-! PI: statistics and logs drawn by the law. -/
namespace K08
open PySem PySem.Spec L2 D
def nameLs : List (List Str) := [["a", "b", "c", "d"], ["buy", "deal", "new", "sell"], ["a", "aa", "ab", "b"], ["k", "z", "zz", "zzzzzzzz"], ["kinds", "on", "result", "x"], ["greatest", "least", "on", "start"]]
structure KsOk (ks : List Str) (m : Nat) : Prop where
  len : ks.length = m
  kk : ∀ k ∈ ks, isKindS k = true
  ka : Asc ks
  nm : ∃ l ∈ nameLs, ks = l.take m
theorem asc_pw : ∀ l : List Str, pwB l = true → Asc l
  | [], _ => .nil
  | a :: l, h => by
    have h' : (l.all (ltS a ·) && pwB l) = true := h
    rw [Bool.and_eq_true] at h'
    exact .cons (List.all_eq_true.mp h'.1) (asc_pw l h'.2)
theorem ks_of {l : List Str} (hl : l ∈ nameLs) {m : Nat} (hm : m ≤ 4) : KsOk (l.take m) m := by
  have h : nameLs.all (fun l => decide (l.length = 4) && (l.all isKindS && pwB l)) = true := by decide +kernel
  have := List.all_eq_true.mp h l hl
  simp only [Bool.and_eq_true, decide_eq_true_eq] at this
  refine ⟨by rw [List.length_take]; omega, fun k hk => List.all_eq_true.mp this.2.1 k (List.mem_of_mem_take hk), (asc_pw l this.2.2).sublist (List.take_sublist _ _), l, hl, rfl⟩
theorem s_lnamed {a : Addr} {m : Nat} {S : Store} {Q : P → Store → Prop} {E : DX} (hS : PoolAt S a) (hm : m ≤ 4) (h : ∀ ks S', KsOk ks m → PoolAt S' a → Q (.tup (strL ks)) S') : d__law_named [.ref a, .int m] S Q E := by
  refine ⟨rfl, ?_⟩
  refine seq_do (asg_do ?_)
  simp only [TLst, ACons, ANil, TC, vals, Option.map_some, startE, N__law_named, List.map_cons, List.map_nil, List.cons_append, List.nil_append, List.length_cons, List.length_nil, List.replicate]
  refine ⟨szN (by decide), szN (by decide), szN (by decide), szN (by decide), szN (by decide), ?_⟩
  simp only [GN, List.set_cons_succ, List.set_cons_zero]
  refine seq_do (asg_do (t2_do ?_))
  simp only [TV, TLst, ACons, ANil, TC, vals, Option.map_some, List.getElem?_cons_succ, List.getElem?_cons_zero]
  refine ⟨szN (by decide), szN (by decide), szN (by decide), ?_⟩
  simp only [addD, asL0]
  refine ⟨_, _, rfl, rfl, szN (by show (6 : Nat) ≤ 10000000; decide), ?_⟩
  simp only [List.cons_append, List.nil_append]
  simp only [GN, SRet, TCall, ACons, ANil, TSl, T2, TV, TC, TCl, ONo, OPart, vals, Option.map_some, List.append_nil, List.set_cons_succ, List.set_cons_zero, List.getElem?_cons_succ, List.getElem?_cons_zero]
  refine s_draw hS (by decide) (by decide) fun r S1 r0 r1 hS1 => ?_
  simp only [ixD, asQ, asL]
  have e : ∀ l : List Str, l ∈ nameLs → Q (.tup (cut (strL l) none (some (m : Int)))) S1 := fun l hl => by
    rw [cutHi _ (by omega)]
    show Q (.tup ((strL l).take m)) S1
    rw [← List.map_take]
    exact h _ _ (ks_of hl hm) hS1
  have h4 : r = 0 ∨ r = 1 ∨ r = 2 ∨ r = 3 ∨ r = 4 ∨ r = 5 := by omega
  rcases h4 with rfl | rfl | rfl | rfl | rfl | rfl
  · exact e ["a", "b", "c", "d"] (by simp [nameLs])
  · exact e ["buy", "deal", "new", "sell"] (by simp [nameLs])
  · exact e ["a", "aa", "ab", "b"] (by simp [nameLs])
  · exact e ["k", "z", "zz", "zzzzzzzz"] (by simp [nameLs])
  · exact e ["kinds", "on", "result", "x"] (by simp [nameLs])
  · exact e ["greatest", "least", "on", "start"] (by simp [nameLs])
theorem rangeP_mem {n : Nat} {p : P} (h : p ∈ rangeP 0 (Int.toNat n)) : ∃ k : Nat, k < n ∧ p = .int k := by
  unfold rangeP at h
  obtain ⟨k, hk, rfl⟩ := List.mem_map.mp h
  exact ⟨k, by simpa using hk, by rw [show (0 : Int) + ((k : Nat) : Int) = (k : Int) by omega]⟩
theorem rangeP_len {n : Nat} : (rangeP 0 (Int.toNat n)).length = n := by unfold rangeP; simp
theorem rangeP_eq {n : Nat} : rangeP 0 (Int.toNat n) = (List.range n).map fun k => P.int ((k : Nat) : Int) := by
  unfold rangeP
  rw [show (Int.toNat (n : Int)) = n from rfl]
  exact List.map_congr_left fun k _ => by rw [show (0 : Int) + ((k : Nat) : Int) = (k : Int) by omega]
theorem slots_sub {n : Nat} (hn : n ≤ 6) : ∀ {ys : List Nat}, ys.Sublist (List.range n) → (ys.map slotN).Sublist (slots.take n) := by
  intro ys h
  have e : slots.take n = (List.range n).map slotN := by
    have : ∀ n : Nat, n < 7 → slots.take n = (List.range n).map slotN := by decide +kernel
    exact this n (by omega)
  rw [e]
  exact h.map slotN
theorem s_lplainK {a : Addr} {m n : Nat} {S : Store} {Q : P → Store → Prop} {E : DX} (hS : PoolAt S a) (m1 : 1 ≤ m) (m4 : m ≤ 4) (n1 : 1 ≤ n) (n6 : n ≤ 6)
    (h : ∀ s S', Ok s → KsOk s.kinds m → s.start.length = n → PoolAt S' a → Q (plP s) S') : d__law_plain [.ref a, .int m, .int n] S Q E := by
  refine ⟨rfl, ?_⟩
  refine seq_do (asg_do ?_)
  simp only [startE, N__law_plain, TCall, ACons, ANil, TFz, NLc, IR1, TV, List.map_cons, List.map_nil, List.cons_append, List.nil_append, List.length_cons, List.length_nil, List.replicate, List.getElem?_cons_succ, List.getElem?_cons_zero]
  refine ⟨⟨by omega, by omega⟩, szN (by rw [rangeP_len]; omega), ?_⟩
  refine comp_rel oiP (fun _ x => x = none ∨ x = some 0) (fun S => PoolAt S a) (fun p hp S1 hS1 K k => ?_) hS fun st S1 st1 st2 hS1 => ?_
  · simp only [GN, T2, TLst, ACons, ANil, TC, TCl, TV, vals, Option.map_some, wipeE, List.append_nil, List.set_cons_succ, List.set_cons_zero, List.getElem?_cons_succ, List.getElem?_cons_zero]
    refine ⟨szN (by decide), s_draw hS1 (by decide) (by decide) fun r S2 r0 r1 hS2 => ?_⟩
    simp only [ixD, asQ, asL]
    have h2 : r = 0 ∨ r = 1 := by omega
    rcases h2 with rfl | rfl
    · exact k (some 0) _ S2 (.inr rfl) hS2 rfl
    · exact k none _ S2 (.inl rfl) hS2 rfl
  rw [rangeP_len] at st1
  simp only [frzO, tupD, asQ, asL, GN, wipeE, List.set_cons_succ, List.set_cons_zero]
  refine seq_do (asg_do ?_)
  simp only [TCall, ACons, ANil, TFz, NLc, IR1, TV, List.getElem?_cons_succ, List.getElem?_cons_zero]
  refine ⟨⟨by omega, by omega⟩, szN (by rw [rangeP_len]; omega), ?_⟩
  refine comp_rel ruleP (fun _ r => r.length = n ∧ ∀ t ∈ r, t.Sublist (known n)) (fun S => PoolAt S a) (fun p hp S2 hS2 K k => ?_) hS1 fun rs S2 rs1 rs2 hS2 => ?_
  · simp only [GN, TCall, ACons, ANil, TFz, NLc, IR1, TV, wipeE, List.set_cons_succ, List.set_cons_zero, List.getElem?_cons_succ, List.getElem?_cons_zero]
    refine ⟨⟨by omega, by omega⟩, szN (by rw [rangeP_len]; omega), ?_⟩
    refine comp_rel tupS (fun _ t => t.Sublist (known n)) (fun S => PoolAt S a) (fun p2 hp2 S3 hS3 K2 k2 => ?_) hS2 fun r S3 r1 r2 hS3 => ?_
    · obtain ⟨j, hj, rfl⟩ := rangeP_mem hp2
      simp only [GN, TCl, ACons, ANil, TV, vals, Option.map_some, wipeE, List.append_nil, List.set_cons_succ, List.set_cons_zero, List.getElem?_cons_succ, List.getElem?_cons_zero]
      refine s_lsome hS3 n6 hj fun t S4 ht hS4 => ?_
      exact k2 t _ S4 ht hS4 rfl
    · rw [rangeP_len] at r1
      simp only [frzO, tupD, asQ, asL]
      exact k r _ S3 ⟨r1, fun t ht => by obtain ⟨_, _, q⟩ := r2 t ht; exact q⟩ hS3 rfl
  rw [rangeP_len] at rs1
  simp only [frzO, tupD, asQ, asL, GN, wipeE, List.set_cons_succ, List.set_cons_zero]
  refine seq_do (asg_do ?_)
  simp only [TFz, NLc, IR1, ACons, ANil, TV, List.getElem?_cons_succ, List.getElem?_cons_zero]
  refine ⟨⟨by omega, by omega⟩, szN (by rw [rangeP_len]; omega), ?_⟩
  rw [rangeP_eq]
  refine comp_sub (fun k : Nat => P.int (k : Int)) (fun S => PoolAt S a) (fun x hx S3 hS3 K acc kk => ?_) hS2 fun ys S3 hy hS3 => ?_
  · simp only [GN, B2, T2, TCl, ACons, ANil, TV, TC, wipeE, List.set_cons_succ, List.set_cons_zero, List.getElem?_cons_succ, List.getElem?_cons_zero, vals, Option.map_some, List.append_nil]
    refine s_draw hS3 (by decide) (by decide) fun r S4 _ _ hS4 => ?_
    obtain ⟨q1, q2⟩ := kk [.v (.ref a), .v (.int m), .v (.int n), .v (.tup (oiL st)), .v (.int x), .v (.tup (rs.map ruleP)), .un, .un, .un] S4 hS4 rfl
    simp only [eqD, asD, eqOk_int, eqP_int]
    refine ⟨trivial, ?_⟩
    by_cases c3 : r = 1
    · simp only [c3, decide_true, if_true]
      exact q1
    · simp only [c3, decide_false, Bool.false_eq_true, if_false]
      exact q2
  simp only [frzO, GN, wipeE, List.set_cons_succ, List.set_cons_zero]
  -- the ends
  have fin : ∀ es : List Nat, es ≠ [] → es.Sublist (List.range n) → (SSeq (SAsg (T2 ixD (TLst (ACons (TC (P.str "greatest")) (ACons (TC (P.str "least")) (ANil)))) (TCl (fun c fs x S' => E c fs S') d__law_draw [] (ACons (TV 0) (ACons (TC (P.int 2)) (ANil))))) (GN 8)) (SRet (TTup (ACons (TV 8) (ACons (TCl (fun c fs x S' => E c fs S') d__law_named [] (ACons (TV 0) (ACons (TV 1) (ANil)))) (ACons (TV 3) (ACons (TV 5) (ACons (TCall tupD (ACons (TFz (NLc (ISeq (TV 7)) (GN 4) (BYes) (T2 addD (TC (P.str "r")) (TCall strD (ACons (TV 4) (ANil)))) [4])) (ANil))) (ANil)))))))))
      { nx := fun _ S' => Q .non S', rt := Q } [.v (.ref a), .v (.int m), .v (.int n), .v (.tup (oiL st)), .un, .v (.tup (rs.map ruleP)), .un, .v (.lst (es.map fun k : Nat => P.int (k : Int))), .un] S3 := by
    intro es he hs
    have el : es.length ≤ 6 := by
      have := hs.length_le
      rw [List.length_range] at this
      omega
    refine seq_do (asg_do ?_)
    simp only [T2, TLst, ACons, ANil, TC, TCl, TV, vals, Option.map_some, List.append_nil, List.getElem?_cons_succ, List.getElem?_cons_zero]
    refine ⟨szN (by decide), s_draw hS3 (by decide) (by decide) fun r S4 r0 r1 hS4 => ?_⟩
    have key : ∀ b : Bool, (SRet (TTup (ACons (TV 8) (ACons (TCl (fun c fs x S' => E c fs S') d__law_named [] (ACons (TV 0) (ACons (TV 1) (ANil)))) (ACons (TV 3) (ACons (TV 5) (ACons (TCall tupD (ACons (TFz (NLc (ISeq (TV 7)) (GN 4) (BYes) (T2 addD (TC (P.str "r")) (TCall strD (ACons (TV 4) (ANil)))) [4])) (ANil))) (ANil))))))))
        { nx := fun _ S' => Q .non S', rt := Q } [.v (.ref a), .v (.int m), .v (.int n), .v (.tup (oiL st)), .un, .v (.tup (rs.map ruleP)), .un, .v (.lst (es.map fun k : Nat => P.int (k : Int))), .v (.str (sideS b))] S4 := by
      intro b
      simp only [SRet, TTup, TCl, TCall, ACons, ANil, TV, vals, Option.map_some, List.append_nil, List.getElem?_cons_succ, List.getElem?_cons_zero]
      refine s_lnamed hS4 m4 fun ks S5 hk hS5 => ?_
      simp only [TFz, NLc, ISeq, TV, List.getElem?_cons_succ, List.getElem?_cons_zero, asI]
      refine ⟨szN (by simp; omega), ?_⟩
      refine comp_map (fun p => match p with | .int i => .str (slotN i.toNat) | p => p) _ _ (fun p hp K k => ?_) ?_
      · obtain ⟨j, hj, rfl⟩ := List.mem_map.mp hp
        have hj6 : j < 6 := by
          have := List.mem_range.mp (hs.subset hj)
          omega
        simp only [GN, wipeE, List.set_cons_succ, List.set_cons_zero]
        refine t_slot (i := 4) (k := j) hj6 rfl ?_
        exact k _ rfl
      · have e : ([] : List P) ++ (es.map fun k : Nat => P.int (k : Int)).map (fun p => match p with | .int i => .str (slotN i.toNat) | p => p) = strL (es.map slotN) := by
          rw [List.nil_append, List.map_map]
          show _ = List.map P.str (List.map slotN es)
          rw [List.map_map]; rfl
        rw [e]
        simp only [frzO, tupD, asQ, asL, vals, Option.map_some]
        refine ⟨szN (by show (5 : Nat) ≤ 10000000; decide), ?_⟩
        refine h ⟨b, ks, st, rs, es.map slotN⟩ S5 ⟨by rw [hk.len]; exact m1, by rw [hk.len]; exact m4, hk.kk, hk.ka, by rw [st1]; exact n1, by rw [st1]; exact n6, fun x hx => ?_, by rw [rs1, hk.len], fun r hr => ?_, by simpa using he, ?_⟩ hk st1 hS5
        · obtain ⟨_, _, q⟩ := st2 x hx
          exact q
        · obtain ⟨_, _, q⟩ := rs2 r hr
          show r.length = st.length ∧ _
          rw [st1]
          exact q
        · show (es.map slotN).Sublist (slots.take st.length)
          rw [st1]
          exact slots_sub n6 hs
    simp only [ixD, asQ, asL]
    have h2 : r = 0 ∨ r = 1 := by omega
    rcases h2 with rfl | rfl
    · exact key true
    · exact key false
  refine seq_do (asg_do ?_)
  have isE : P.isEs (ys.map fun k : Nat => P.int (k : Int)) = true := isEs_map _ (fun _ => rfl) ys
  obtain ⟨e1, e2⟩ := eq_nil isE
  simp only [TIf, B2, T2, TV, TLst, ANil, vals, List.getElem?_cons_succ, List.getElem?_cons_zero, eqD, asD, e1, e2]
  refine ⟨szN (by decide), trivial, ?_⟩
  cases hys : ys with
  | nil =>
    simp only [List.map_nil, List.isEmpty_nil, if_true, TLst, T2, ACons, ANil, TV, TC, vals, Option.map_some, List.getElem?_cons_succ, List.getElem?_cons_zero, subD, ii]
    refine ⟨trivial, szN (by show (1 : Nat) ≤ 10000000; decide), ?_⟩
    simp only [GN, List.set_cons_succ, List.set_cons_zero]
    have := fin [n - 1] (by simp) (by rw [List.singleton_sublist]; exact List.mem_range.mpr (by omega))
    rw [show ([n - 1].map fun k : Nat => P.int (k : Int)) = [P.int ((n : Int) - 1)] by simp; omega] at this
    exact this
  | cons y ys' =>
    simp only [List.map_cons, List.isEmpty_cons, Bool.false_eq_true, if_false, TV, GN, List.set_cons_succ, List.set_cons_zero, List.getElem?_cons_succ, List.getElem?_cons_zero]
    have := fin (y :: ys') (by simp) (by rw [← hys]; exact hy)
    exact this
theorem s_lplain {a : Addr} {m n : Nat} {S : Store} {Q : P → Store → Prop} {E : DX} (hS : PoolAt S a) (m1 : 1 ≤ m) (m4 : m ≤ 4) (n1 : 1 ≤ n) (n6 : n ≤ 6)
    (h : ∀ s S', Ok s → s.kinds.length = m → s.start.length = n → PoolAt S' a → Q (plP s) S') : d__law_plain [.ref a, .int m, .int n] S Q E :=
  s_lplainK hS m1 m4 n1 n6 fun s S' o hk hn hS' => h s S' o hk.len hn hS'
theorem s_lgreatK {a : Addr} {S : Store} {Q : P → Store → Prop} {E : DX} (hS : PoolAt S a) (h : ∀ s S', Ok s → (∃ l ∈ nameLs, ∃ m, s.kinds = l.take m) → PoolAt S' a → Q (plP s) S') : d__law_great [.ref a] S Q E := by
  refine ⟨rfl, ?_⟩
  simp only [T__law_great, SRet, TCl, T2, TV, TC, ACons, ANil, vals, Option.map_some, List.append_nil, startE, N__law_great, List.map_cons, List.map_nil, List.cons_append, List.nil_append, List.getElem?_cons_succ, List.getElem?_cons_zero]
  refine s_draw hS (by decide) (by decide) fun r S1 r0 r1 hS1 => ?_
  simp only [addD]
  refine s_draw hS1 (by decide) (by decide) fun q S2 q0 q1 hS2 => ?_
  obtain ⟨m, rfl⟩ : ∃ m : Nat, r = m := ⟨r.toNat, by omega⟩
  obtain ⟨n, rfl⟩ : ∃ m : Nat, q = m := ⟨q.toNat, by omega⟩
  exact s_lplainK (m := 1 + m) (n := 1 + n) hS2 (by omega) (by omega) (by omega) (by omega) fun s S' o hk _ hS' => h s S' o (by obtain ⟨l, hl, e⟩ := hk.nm; exact ⟨l, hl, _, e⟩) hS'
theorem s_lsmallK {a : Addr} {S : Store} {Q : P → Store → Prop} {E : DX} (hS : PoolAt S a) (h : ∀ s S', Ok s → (∃ l ∈ nameLs, ∃ m, s.kinds = l.take m) → PoolAt S' a → Q (plP s) S') : d__law_small [.ref a] S Q E := by
  refine ⟨rfl, ?_⟩
  simp only [T__law_small, SRet, TCl, T2, TV, TC, ACons, ANil, vals, Option.map_some, List.append_nil, startE, N__law_small, List.map_cons, List.map_nil, List.cons_append, List.nil_append, List.getElem?_cons_succ, List.getElem?_cons_zero]
  refine s_draw hS (by decide) (by decide) fun r S1 r0 r1 hS1 => ?_
  simp only [addD]
  refine s_draw hS1 (by decide) (by decide) fun q S2 q0 q1 hS2 => ?_
  obtain ⟨m, rfl⟩ : ∃ m : Nat, r = m := ⟨r.toNat, by omega⟩
  obtain ⟨n, rfl⟩ : ∃ m : Nat, q = m := ⟨q.toNat, by omega⟩
  exact s_lplainK (m := 1 + m) (n := 1 + n) hS2 (by omega) (by omega) (by omega) (by omega) fun s S' o hk _ hS' => h s S' o (by obtain ⟨l, hl, e⟩ := hk.nm; exact ⟨l, hl, _, e⟩) hS'
theorem s_lgreat {a : Addr} {S : Store} {Q : P → Store → Prop} {E : DX} (hS : PoolAt S a) (h : ∀ s S', Ok s → PoolAt S' a → Q (plP s) S') : d__law_great [.ref a] S Q E := s_lgreatK hS fun s S' o _ hS' => h s S' o hS'
theorem s_lsmall {a : Addr} {S : Store} {Q : P → Store → Prop} {E : DX} (hS : PoolAt S a) (h : ∀ s S', Ok s → PoolAt S' a → Q (plP s) S') : d__law_small [.ref a] S Q E := s_lsmallK hS fun s S' o _ hS' => h s S' o hS'
end K08
/-! PJ: statistics made by the law, called, compared; logs drawn. -/
namespace K08
open PySem PySem.Spec L2 D
/-! ### depth, equality of plain forms -/
theorem dep_tup {n : Nat} {xs : List P} (h : ∀ x ∈ xs, x.dep ≤ n) : (P.tup xs).dep ≤ n + 1 := by
  have key : ∀ xs : List P, (∀ x ∈ xs, x.dep ≤ n) → PyData.depthAll (P.dats xs) ≤ n := by
    intro xs
    induction xs with
    | nil => intro _; exact Nat.zero_le _
    | cons x xs ih =>
      intro h
      show max x.dat.depth (PyData.depthAll (P.dats xs)) ≤ n
      exact Nat.max_le.mpr ⟨h x (List.mem_cons_self ..), ih fun y hy => h y (List.mem_cons_of_mem _ hy)⟩
  exact Nat.succ_le_succ (key xs h)
theorem dep_strL (xs : List Str) : (P.tup (strL xs)).dep ≤ 1 := dep_tup fun x hx => by
  obtain ⟨s, _, rfl⟩ := List.mem_map.mp hx
  exact Nat.zero_le _
theorem dep_plain (s : Stc) : (plP s).dep ≤ 50 := by
  refine Nat.le_trans (dep_tup (n := 3) fun x hx => ?_) (by decide)
  rcases (List.mem_cons.mp hx) with rfl | hx
  · exact Nat.zero_le _
  rcases (List.mem_cons.mp hx) with rfl | hx
  · exact Nat.le_trans (dep_strL _) (by decide)
  rcases (List.mem_cons.mp hx) with rfl | hx
  · refine Nat.le_trans (dep_tup (n := 0) fun x hx => ?_) (by decide)
    obtain ⟨y, _, rfl⟩ := List.mem_map.mp hx
    cases y <;> exact Nat.zero_le _
  rcases (List.mem_cons.mp hx) with rfl | hx
  · refine dep_tup (n := 2) fun x hx => ?_
    obtain ⟨r, _, rfl⟩ := List.mem_map.mp hx
    refine dep_tup (n := 1) fun x hx => ?_
    obtain ⟨t, _, rfl⟩ := List.mem_map.mp hx; exact dep_strL t
  · rw [List.mem_singleton.mp hx]
    exact Nat.le_trans (dep_strL _) (by decide)
theorem eqOk_plain (s t : Stc) : eqOk (plP s) (plP t) = true := by
  unfold eqOk
  rw [isE_plain, isE_plain]
  have := dep_plain s
  simp
  omega
theorem eqP_self (s : Stc) : eqP (plP s) (plP s) = true := eqSelf (isE_plain s)
theorem eqP_turn (s : Stc) : eqP (plP s.turn) (plP s) = false := by
  have e0 : ∀ b : Bool, decide (sideS (!b) = sideS b) = false := by decide
  have e : decide (sideS s.turn.side = sideS s.side) = false := e0 s.side
  have e2 : eqP (.str (sideS s.turn.side)) (.str (sideS s.side)) = false := by rw [eqP_str]; exact e
  unfold plP eqP
  simp only [P.dat, P.dats, PyData.eqv, PyData.eqvAll]
  have e3 : (sideS s.turn.side == sideS s.side) = false := by
    have := of_decide_eq_false e
    simpa using this
  rw [e3]
  rfl
theorem s_eq {s t : Stc} {S : Store} {Q : P → Store → Prop} {E : DX} (h : Q (.bl (eqP (plP s) (plP t))) S) : d_Statistic___eq__ [stP s, stP t] S Q E := by
  refine ⟨rfl, ?_⟩
  simp only [T_Statistic___eq__, SRet, TAnd, TCall, ACons, ANil, TV, TC, startE, N_Statistic___eq__, List.map_cons, List.map_nil, List.cons_append, List.getElem?_cons_succ, List.getElem?_cons_zero, isiX, ins_st]
  refine ⟨by decide, ?_⟩
  have key : ∃ l, isSub.lookup (nameC t.side) = some l ∧ l.contains ("Statistic" : Str) = true := by cases t.side <;> exact ⟨_, rfl, by decide⟩
  obtain ⟨l, key, kc⟩ := key
  rw [key]
  simp only [kc, truD]
  refine t2_do ?_
  simp only [TAtt, TV, List.getElem?_cons_succ, List.getElem?_cons_zero]
  refine a_plain (a_plain ?_)
  simp only [eqD, asD, plP]
  exact ⟨eqOk_plain s t, h⟩
theorem eqX_st {s t : Stc} {ρ : D.Env} {S : Store} {k : K1} (h : k (.bl (eqP (plP s) (plP t)))) : eqX eqCs tsp___eq__ (.v (stP s)) (.v (stP t)) ρ S k := by
  unfold eqX
  simp only [ins_st]
  have ct : ∀ b : Bool, eqCs.contains (nameC b) = true := by decide
  refine ⟨ct t.side, ?_⟩
  unfold spD
  simp only [ins_st]
  have key : tsp___eq__.lookup (nameC s.side) = some d_Statistic___eq__ := by cases s.side <;> rfl
  rw [key]
  exact s_eq ⟨rfl, _, rfl, h⟩
theorem neX_st {s t : Stc} {ρ : D.Env} {S : Store} {k : K1} (h : k (.bl (!eqP (plP s) (plP t)))) : neX eqCs tsp___eq__ (.v (stP s)) (.v (stP t)) ρ S k := by
  unfold neX
  simp only [ins_st]
  have ct : ∀ b : Bool, eqCs.contains (nameC b) = true := by decide
  refine ⟨ct t.side, ?_⟩
  unfold spD
  simp only [ins_st]
  have key : tsp___eq__.lookup (nameC s.side) = some d_Statistic___eq__ := by cases s.side <;> rfl
  rw [key]
  exact s_eq ⟨rfl, _, rfl, h⟩
/-! ### made, turned, called -/
theorem s_lof {s : Stc} {S : Store} {Q : P → Store → Prop} {E : DX} (o : Ok s) (h : Q (stP s) S) : d__law_of [plP s] S Q E := by
  refine ⟨rfl, ?_⟩
  have a0 : ∀ {ρ : D.Env} {K : K1}, K (.str (sideS s.side)) → ixD (.v (plP s)) (.v (.int 0)) ρ S K := fun k => k
  have a1 : ∀ {ρ : D.Env} {K : K1}, K (.tup (strL s.kinds)) → ixD (.v (plP s)) (.v (.int 1)) ρ S K := fun k => k
  have a2 : ∀ {ρ : D.Env} {K : K1}, K (.tup (oiL s.start)) → ixD (.v (plP s)) (.v (.int 2)) ρ S K := fun k => k
  have a3 : ∀ {ρ : D.Env} {K : K1}, K (.tup (s.rules.map ruleP)) → ixD (.v (plP s)) (.v (.int 3)) ρ S K := fun k => k
  have a4 : ∀ {ρ : D.Env} {K : K1}, K (.tup (strL s.ends)) → ixD (.v (plP s)) (.v (.int 4)) ρ S K := fun k => k
  have hB : ∀ (K : List R → D.Env → Store → Prop), K [.v (.tup (strL s.kinds)), .v (.tup (oiL s.start)), .v (.tup (s.rules.map ruleP)), .v (.tup (strL s.ends))] [.v (plP s)] S →
      (ACons (T2 ixD (TV 0) (TC (P.int 1))) (ACons (T2 ixD (TV 0) (TC (P.int 2))) (ACons (T2 ixD (TV 0) (TC (P.int 3))) (ACons (T2 ixD (TV 0) (TC (P.int 4))) (ANil))))) [.v (plP s)] S K := fun K k => by
    simp only [ACons, ANil, T2, TV, TC, List.getElem?_cons_zero]
    exact a1 (a2 (a3 (a4 k)))
  refine seq_do ?_
  simp only [SIf, B2, T2, TV, TC, startE, N__law_of, List.map_cons, List.map_nil, List.cons_append, List.nil_append, List.length_cons, List.length_nil, List.replicate, List.getElem?_cons_zero]
  refine a0 ?_
  simp only [eqD, asD, eqOk_str, eqP_str, side_eq]
  refine ⟨trivial, ?_⟩
  cases hs : s.side with
  | true =>
    simp only [if_true, SRet, TFz]
    refine s_make o (fun K k => by rw [hs] at k; exact k) (fun K k => hB K k) ?_
    simp only [frzO]
    exact h
  | false =>
    simp only [Bool.false_eq_true, if_false, SNext, SRet, TFz]
    refine s_make o (fun K k => by rw [hs] at k; exact k) (fun K k => hB K k) ?_
    simp only [frzO]
    exact h
theorem i_call {s : Stc} {l : List (Str × Int)} {W : DXr} {T : DT} {A : DA} {ρ : D.Env} {S : Store} {Q : DQ} (o : Ok s) (hT : ∀ K : DQ, K (.v (stP s)) ρ S → T ρ S K) (hA : ∀ K : List R → D.Env → Store → Prop, K [.v (logP l)] ρ S → A ρ S K) (hl : l.length ≤ 1000) (ho : ∀ e ∈ l, EvOk s.kinds e)
    (h : Q (.v (oiP (callF s l))) ρ S) : TInst tinst___call___2 2 0 W T (A2p A) ρ S Q := by
  refine hT _ ?_
  simp only [ins_st]
  have key : tinst___call___2.lookup (nameC s.side) = some (d_Statistic___call__, [.p 0, .p 1], []) := by cases s.side <;> rfl
  rw [key]
  refine hA _ ?_
  simp only [vals, Option.map_some]
  exact ⟨⟨_, rfl⟩, rfl, rfl, s_call o hl ho h⟩
/-! ### logs -/
theorem s_levents {s : Stc} {a : Addr} {n : Nat} {w : Int} {S : Store} {Q : P → Store → Prop} {E : DX} (hS : PoolAt S a) (o : Ok s) (hn : n ≤ 1000) (w1 : 0 ≤ w) (w2 : w ≤ 1000000000000000000000000000000)
    (h : ∀ l S', l.length = n → (∀ e ∈ l, EvOk s.kinds e) → PoolAt S' a → Q (logP l) S') : d__law_events [.ref a, plP s, .int n, .int w] S Q E := by
  refine ⟨rfl, ?_⟩
  refine seq_do (asg_do ?_)
  have a1 : ∀ {ρ : D.Env} {S : Store} {K : K1}, K (.tup (strL s.kinds)) → ixD (.v (plP s)) (.v (.int 1)) ρ S K := fun k => k
  simp only [T2, TV, TC, startE, N__law_events, List.map_cons, List.map_nil, List.cons_append, List.nil_append, List.length_cons, List.length_nil, List.replicate, List.getElem?_cons_succ, List.getElem?_cons_zero]
  refine a1 ?_
  simp only [GN, List.set_cons_succ, List.set_cons_zero, SRet, TCall, TFz, NLc, IR1, ACons, ANil, TV, List.getElem?_cons_succ, List.getElem?_cons_zero]
  refine ⟨⟨by omega, by omega⟩, szN (by rw [rangeP_len]; omega), ?_⟩
  refine comp_rel evP (fun _ e => EvOk s.kinds e) (fun S => PoolAt S a) (fun p hp S1 hS1 K k => ?_) hS fun l S1 l1 l2 hS1 => ?_
  · have kl := o.k1
    have k4 := o.k4
    simp only [GN, wipeE, List.set_cons_succ, List.set_cons_zero]
    refine tup2_do (t2_do ?_)
    simp only [TV, TCl, TCall, ACons, ANil, lenD, asQ, vals, Option.map_some, List.append_nil, List.getElem?_cons_succ, List.getElem?_cons_zero]
    refine s_draw hS1 (by simp; omega) (by simp; omega) fun r S2 r0 r1 hS2 => ?_
    simp only [ixD, asQ]
    have rl : r < ((strL s.kinds).length : Int) := r1
    rw [atNat r0 rl]
    simp only [List.getElem_map]
    refine t2_do ?_
    simp only [T2, TV, TC, TCl, ACons, ANil, vals, Option.map_some, List.append_nil, List.getElem?_cons_succ, List.getElem?_cons_zero, mulD, addD]
    refine ⟨.inl (.inl ⟨by decide, by decide⟩), s_draw hS2 (by omega) (by omega) fun q S3 q0 q1 hS3 => ?_⟩
    simp only [subD, ii, vals, Option.map_some]
    refine ⟨trivial, szN (by show (2 : Nat) ≤ 10000000; decide), ?_⟩
    have hm : s.kinds[r.toNat]'(by simp at rl; omega) ∈ s.kinds := List.getElem_mem _
    exact k (s.kinds[r.toNat]'(by simp at rl; omega), q - w) _ S3 ⟨hm, o.kk _ hm, by omega, by omega⟩ hS3 rfl
  · rw [rangeP_len] at l1
    simp only [frzO, tupD, asQ, asL]
    exact h l S1 l1 (fun e he => by obtain ⟨_, _, q⟩ := l2 e he; exact q) hS1
end K08
/-! PM: the law's own run of a statistic. -/
namespace K08
open PySem PySem.Spec L2 D
theorem s_lbestF {g : Bool} {xs : List (Option Int)} {S : Store} {Q : P → Store → Prop} {E : DX} (hl : xs.length ≤ 1000) (h : Q (oiP (bestI g (xs.filterMap id))) S) : d__law_best [.str (sideS g), .lst (oiL xs)] S Q E :=
  s_best_of (E := E) hl h
theorem s_lsource {t : Str} {S : Store} {Q : P → Store → Prop} {E : DX} (h : Q (.tup [.str (srcS t), .bl (takeS t)]) S) : d__law_source [.str t] S Q E := by
  refine ⟨rfl, ?_⟩
  have m : memP (.str t) [.str "0", .str "x"] = decide (t = "0" ∨ t = "x") := by
    rw [show ([.str "0", .str "x"] : List P) = strL ["0", "x"] from rfl, memP_strL]
    simp
  have e1 : P.isEs [.str "0", .str "x"] = true := rfl
  have e2 : (P.str t).isE = true := rfl
  have e3 : (P.str t).dep ≤ 50 := Nat.zero_le _
  by_cases c : t = "0" ∨ t = "x"
  · rw [srcS, takeS, if_pos c, if_pos c] at h
    simp [T__law_source, SSeq, SIf, B2, T2, TV, TC, TTup, TLst, ACons, ANil, vals, startE, N__law_source, inD, asD, asQ, asL, m, e1, e2, e3, c, SRet, eqD, eqOk_str, eqP_str]
    exact ⟨szN (by decide), h⟩
  · rw [srcS, takeS, if_neg c, if_neg c] at h
    simp [T__law_source, SSeq, SIf, B2, T2, TV, TC, TTup, TLst, ACons, ANil, vals, startE, N__law_source, inD, asD, asQ, asL, m, e1, e2, e3, c, SRet, SNext, TSl, ONo, OPart, slD, TCall, lenD, ordD]
    exact ⟨szN (by decide), h⟩
theorem s_lend {s : Stc} {row : Row} {S : Store} {Q : P → Store → Prop} {E : DX} (o : Ok s) (hrow : row.length = s.start.length) (h : Q (oiP (resF s.side s.ends row)) S) : d__law_end [plP s, .tup (oiL row)] S Q E := by
  refine ⟨rfl, ?_⟩
  have hn := o.s6
  have he := o.es
  have el : s.ends.length ≤ 6 := Nat.le_trans he.length_le (by rw [List.length_take]; omega)
  have a0 : ∀ {ρ : D.Env} {K : K1}, K (.str (sideS s.side)) → ixD (.v (plP s)) (.v (.int 0)) ρ S K := fun k => k
  have a4 : ∀ {ρ : D.Env} {K : K1}, K (.tup (strL s.ends)) → ixD (.v (plP s)) (.v (.int 4)) ρ S K := fun k => k
  simp only [T__law_end, SRet, TCl, ACons, ANil, TV, TC, TFz, NLc, ISeq, startE, N__law_end, List.map_cons, List.map_nil, List.cons_append, List.nil_append, List.length_cons, List.length_nil, List.replicate, List.getElem?_cons_succ, List.getElem?_cons_zero]
  refine t2_do ?_
  simp only [TV, TC, List.getElem?_cons_zero]
  refine a0 (t2_do ?_)
  simp only [TV, TC, List.getElem?_cons_zero]
  refine a4 ?_
  simp only [asI]
  refine ⟨szN (by simp; omega), ?_⟩
  refine comp_map (fun p => match p with | .str x => oiP (rowAt row x) | p => p) _ _ (fun p hp K k => ?_) ?_
  · obtain ⟨x, hx, rfl⟩ := List.mem_map.mp hp
    have hx2 := he.subset hx
    obtain ⟨i, hi⟩ := List.mem_iff_getElem?.mp hx2
    have hi6 : i < s.start.length ∧ i < 6 := by
      have := (List.getElem?_eq_some_iff.mp hi).1; rw [List.length_take, show slots.length = 6 from rfl] at this
      omega
    obtain ⟨z, s1, s2, s3⟩ := slot_int i hi6.2
    rw [List.getElem?_take_of_lt hi6.1, s1] at hi
    cases hi
    have hc : row[i]? = some (row[i]'(by omega)) := List.getElem?_eq_getElem _
    have e1 : atI (oiL row) (i : Int) = some (oiP (row[i]'(by omega))) := by
      rw [atNat (by omega) (by simp; omega)]
      simp
    have k' := k [.v (plP s), .v (.tup (oiL row)), .v (.str x)] rfl
    simp only [slot_row s1 hc] at k'
    simp only [GN, T2, TV, TCall, TSl, OPart, ONo, ACons, ANil, TC, slD, wipeE, List.set_cons_succ, List.set_cons_zero, List.getElem?_cons_succ, List.getElem?_cons_zero, intD, s2]
    refine ⟨s3, ?_⟩
    simp only [ixD, asQ, e1]
    exact k'
  · have e : ([] : List P) ++ (strL s.ends).map (fun p => match p with | .str x => oiP (rowAt row x) | p => p) = oiL (s.ends.map (rowAt row)) := by
      rw [List.nil_append, List.map_map]
      show _ = List.map oiP (List.map (rowAt row) s.ends)
      rw [List.map_map]; rfl
    rw [e]
    simp only [frzO, vals, Option.map_some, List.append_nil]
    refine s_lbestF (by simp; omega) ?_
    rw [List.filterMap_map]
    exact h
/-! ### one event -/
def LSB : DS := SIf (B2 nisD (T2 (ixY ixD) (TV 3) (TV 9)) (TC P.non)) (SExpr (TM tyL appD (TV 7) (ACons (T2 addD (T2 (ixY ixD) (TV 3) (TV 9)) (T2 mulD (T2 (ixY ixD) (TV 2) (TC (P.int 1))) (TCall intD (ACons (TV 10) (ANil))))) (ANil)))) (SNext)
def LSI (W : DXr) : DS := SSeq (SAsg (TCl W d__law_source [] (ACons (TV 8) (ANil))) (GT 2 (GCons (GN 9) (GCons (GN 10) (GNil))))) LSB
def LSO (W : DXr) : DS := SSeq (SOwn 7 (NLst (ANil))) (SSeq (SFor (ISeq (TV 6)) (GN 8) (LSI W)) (SExpr (TM tyL appD (TV 4) (ACons (TCl W d__law_best [] (ACons (T2 (ixY ixD) (TV 0) (TC (P.int 0))) (ACons (TF 7) (ANil)))) (ANil)))))
def LSF : DS := SAsg (T2 (ixY ixD) (TV 1) (TV 5)) (GSY (TV 3) (T2 addD (TC (P.str "r")) (TCall strD (ACons (TV 5) (ANil)))))
theorem LS_eq (W : DXr) : T__law_step W = SSeq (SOw2 3 4 (NDct [(TC (P.str "0"), TC (P.int 0))])) (SSeq (SFor (IR1 (ACons (TCall lenD (ACons (TV 1) (ANil))) (ANil))) (GN 5) LSF)
    (SSeq (SFor (ISeq (T2 (ixY ixD) (T2 (ixY ixD) (TV 0) (TC (P.int 3))) (TM tyT indexD (T2 (ixY ixD) (TV 0) (TC (P.int 1))) (ACons (T2 (ixY ixD) (TV 2) (TC (P.int 0))) (ANil))))) (GN 6) (LSO W)) (SRet (TCall tupD (ACons (TV 4) (ANil)))))) := rfl
theorem ixY_tup {xs : List P} {i : Int} {p : P} {ρ : D.Env} {S : Store} {K : K1} (h : atI xs i = some p) (k : K p) : ixY ixD (.v (.tup xs)) (.v (.int i)) ρ S K := by
  show ixD (.v (.tup xs)) (.v (.int i)) ρ S K
  simp only [ixD, asQ, h]
  exact k
theorem held_put {row : Row} (h6 : row.length ≤ 6) : ∀ k, (hk : k < row.length) → putP ((heldOf (row.take k)).map pairP) (.str (slotN k)) (oiP row[k]) = (heldOf (row.take (k + 1))).map pairP := by
  intro k hk
  match k, row, hk with
  | 0, a :: r, _ => rfl
  | 1, a :: b :: r, _ => rfl
  | 2, a :: b :: c :: r, _ => rfl
  | 3, a :: b :: c :: d :: r, _ => rfl
  | 4, a :: b :: c :: d :: e :: r, _ => rfl
  | 5, a :: b :: c :: d :: e :: f :: r, _ => rfl
  | n + 6, r, hk => omega
theorem strsOf_strs : ∀ ys : List Str, strsOf (strL ys) = some ys
  | [] => rfl
  | y :: ys => by
    show (strsOf (strL ys)).map (y :: ·) = _
    rw [strsOf_strs ys]; rfl
theorem idx_asc : ∀ {ks : List Str} {i : Nat} {k : Str}, Asc ks → ks[i]? = some k → ks.idxOf k = i
  | a :: ks, 0, k, _, h => by
    simp at h
    subst h
    simp
  | a :: ks, i + 1, k, ha, h => by
    have h' : ks[i]? = some k := by simpa using h
    have ne : a ≠ k := fun e => by
      have := (List.pairwise_cons.mp ha).1 _ (List.mem_of_getElem? h')
      rw [e, ltS_irrefl] at this
      cases this
    have b : (a == k) = false := by simpa using ne
    rw [List.idxOf_cons, b, idx_asc (List.pairwise_cons.mp ha).2 h']
    rfl
theorem take_val (c amt : Int) (b : Bool) : c + amt * (if b = true then 1 else 0) = if b = true then c + amt else c := by
  cases b <;> simp
section
variable {s : Stc} {row : Row} {e : Str × Int} {S : Store} {Dn : DEnds} {v5 v6 v7 v8 v9 v10 : Sl} {W : DXr}
abbrev lsE (s : Stc) (row : Row) (e : Str × Int) (kvs : List (P × P)) (fs : List P) (v5 v6 v7 v8 v9 v10 : Sl) : D.Env := [.v (plP s), .v (.tup (oiL row)), .v (evP e), .own (.dct kvs), .own (.lst fs), v5, v6, v7, v8, v9, v10]
theorem ls_term {t : Str} {fs : List P} {acc : List Int} (ht : srcS t ∈ (("0" : Str) :: slots.take row.length)) (hl : acc.length < 1000)
    (h : ∀ v9 v10, Dn.nx (lsE s row e ((heldOf row).map pairP) fs v5 v6 (.own (.lst (intsL (acc ++ [t].filterMap (termVal row e.2))))) (.v (.str t)) v9 v10) S) :
    LSI W Dn (lsE s row e ((heldOf row).map pairP) fs v5 v6 (.own (.lst (intsL acc))) (.v (.str t)) v9 v10) S := by
  refine seq_do (asg_do ?_)
  simp only [TCl, ACons, ANil, TV, vals, Option.map_some, List.append_nil, List.getElem?_cons_succ, List.getElem?_cons_zero]
  refine s_lsource ?_
  simp only [GT, GCons, GN, GNil, List.set_cons_succ, List.set_cons_zero]
  refine ⟨rfl, ?_⟩
  have e1 : valP ((heldOf row).map pairP) (.str (srcS t)) = some (oiP (hval row (srcS t))) := by
    rw [valP_of, held_some ht]; rfl
  have ix : ∀ {ρ : D.Env} {S : Store} {K : K1}, ρ[3]? = some (.own (.dct ((heldOf row).map pairP))) → K (oiP (hval row (srcS t))) → ixY ixD (.loc 3) (.v (.str (srcS t))) ρ S K := by
    intro ρ S K h3 k
    have ea : asDc ρ S (.loc 3) = some ((heldOf row).map pairP) := by simp only [asDc, h3]
    simp only [ixY, ea, e1]
    exact ⟨rfl, k⟩
  have hf := h (.v (.str (srcS t))) (.v (.bl (takeS t)))
  rw [List.filterMap_cons, List.filterMap_nil] at hf
  simp only [LSB, SIf]
  refine t2b_do (t2_do ?_)
  simp only [TV, TC, List.getElem?_cons_succ, List.getElem?_cons_zero]
  refine ix rfl ?_
  cases hv : hval row (srcS t) with
  | none =>
    rw [show termVal row e.2 t = none by unfold termVal; rw [hv]; rfl] at hf
    simp only [nisD, _root_.D.isNon, Bool.not_true, Bool.false_eq_true, if_false, SNext]
    simpa only [List.append_nil] using hf
  | some c =>
    rw [show termVal row e.2 t = some (if takeS t = true then c + e.2 else c) by unfold termVal; rw [hv]; rfl] at hf
    rw [hv] at ix
    simp only [nisD, _root_.D.isNon, Bool.not_false, if_true, SExpr, TM, ACons, ANil]
    simp only [TV, List.getElem?_cons_succ, List.getElem?_cons_zero]
    refine ⟨rfl, t2_do (t2_do ?_)⟩
    simp only [TV, List.getElem?_cons_succ, List.getElem?_cons_zero]
    refine ix rfl (t2_do (t2_do ?_))
    simp only [TV, TC, TCall, ACons, ANil, List.getElem?_cons_succ, List.getElem?_cons_zero]
    refine ixY_tup (p := .int e.2) rfl ?_
    have wk : ∀ {K : K1}, K (.int (e.2 * (if takeS t = true then 1 else 0))) → intD [.v (.bl (takeS t))] (lsE s row e ((heldOf row).map pairP) fs v5 v6 (.own (.lst (intsL acc))) (.v (.str t)) (.v (.str (srcS t))) (.v (.bl (takeS t)))) S fun z => mulD (.v (.int e.2)) (.v z) (lsE s row e ((heldOf row).map pairP) fs v5 v6 (.own (.lst (intsL acc))) (.v (.str t)) (.v (.str (srcS t))) (.v (.bl (takeS t)))) S K := by
      intro K k
      simp only [intD, mulD]
      refine ⟨.inl (.inr ?_), k⟩
      cases takeS t <;> exact ⟨by decide, by decide⟩
    refine wk ?_
    simp only [addD, appD, wrL, List.getElem?_cons_succ, List.getElem?_cons_zero, List.set_cons_succ, List.set_cons_zero]
    rw [take_val]
    refine ⟨szN (by simp; omega), ?_⟩
    have mp : ∀ z : Int, intsL (acc ++ [z]) = intsL acc ++ [P.int z] := fun z => List.map_append
    rw [mp] at hf
    exact hf
theorem ls_reg {t : List Str} {fs : List P} {n : Nat} (o : Ok s) (hn : n ≤ 6) (hrow : row.length = n) (ht : t.Sublist (known n)) (hf : fs.length < 1000)
    (h : ∀ v7 v8 v9 v10, Dn.nx (lsE s row e ((heldOf row).map pairP) (fs ++ [oiP (bestI s.side (t.filterMap (termVal row e.2)))]) v5 (.v (tupS t)) v7 v8 v9 v10) S) :
    LSO W Dn (lsE s row e ((heldOf row).map pairP) fs v5 (.v (tupS t)) v7 v8 v9 v10) S := by
  have tl : t.length ≤ 14 := Nat.le_trans ht.length_le (known_len hn)
  refine seq_do ?_
  simp only [SOwn, NLst, ANil, vals]
  refine ⟨szN (by decide), seq_do ?_⟩
  simp only [SFor, ISeq, TV, List.set_cons_succ, List.set_cons_zero, List.getElem?_cons_succ, List.getElem?_cons_zero, asI]
  refine for_i (fun pre ρ S' => S' = S ∧ ∃ v8 v9 v10, ρ = lsE s row e ((heldOf row).map pairP) fs v5 (.v (tupS t)) (.own (.lst (intsL ((t.take pre.length).filterMap (termVal row e.2))))) v8 v9 v10)
    (fun pre p post ee ρ S' ⟨hS, v8, v9, v10, hρ⟩ D' h1 h2 h3 h4 => ?_) ⟨rfl, _, _, _, rfl⟩ fun ρ S' ⟨hS, v8, v9, v10, hρ⟩ => ?_
  · subst hS hρ
    have hp : (strL t)[pre.length]? = some p := by rw [ee]; simp
    rw [List.getElem?_map] at hp
    obtain ⟨x, hx, rfl⟩ := Option.map_eq_some_iff.mp hp
    simp only [GN, List.set_cons_succ, List.set_cons_zero]
    have al : ((t.take pre.length).filterMap (termVal row e.2)).length < 1000 := Nat.lt_of_le_of_lt (List.length_filterMap_le _ _) (by rw [List.length_take]; omega)
    refine ls_term (by rw [hrow]; exact src_known hn (ht.subset (List.mem_of_getElem? hx))) al fun v9 v10 => h1 _ _ ⟨rfl, .v (.str x), v9, v10, ?_⟩
    rw [List.length_append, List.length_singleton, List.take_succ, hx, List.filterMap_append]
    rfl
  · subst hS hρ
    rw [show t.take (strL t).length = t by rw [List.length_map, List.take_length]]
    simp only [SExpr, TM, ACons, ANil, TCl]
    simp only [TV, TF, List.getElem?_cons_succ, List.getElem?_cons_zero]
    refine ⟨rfl, t2_do ?_⟩
    simp only [TV, TC, List.getElem?_cons_zero]
    refine ixY_tup (p := .str (sideS s.side)) rfl ?_
    simp only [vals, Option.map_some, List.append_nil]
    rw [oi_ints]
    refine s_lbestF (by simp; exact Nat.le_trans (List.length_filterMap_le _ _) (by omega)) ?_
    rw [flt_some]
    simp only [appD, wrL, List.set_cons_succ, List.set_cons_zero, List.getElem?_cons_succ, List.getElem?_cons_zero]
    exact ⟨szN (by omega), h _ _ _ _⟩
theorem s_lstep {Q : P → Store → Prop} {E : DX} (o : Ok s) (hrow : row.length = s.start.length) (he : e.1 ∈ s.kinds) (h : Q (.tup (oiL (stepF s.side (ruleOf s e.1) row e.2))) S) : d__law_step [plP s, .tup (oiL row), evP e] S Q E := by
  have h6 : row.length ≤ 6 := by rw [hrow]; exact o.s6
  refine ⟨rfl, ?_⟩
  rw [LS_eq]
  refine seq_do ?_
  simp only [SOw2, NDct, prsD, TC, startE, N__law_step, List.map_cons, List.map_nil, List.cons_append, List.nil_append, List.length_cons, List.length_nil, List.replicate, List.set_cons_succ, List.set_cons_zero]
  refine ⟨rfl, by decide, seq_do ?_⟩
  simp only [SFor, IR1, TCall, ACons, ANil, TV, lenD, asQ, List.length_map, List.getElem?_cons_succ, List.getElem?_cons_zero]
  refine ⟨⟨by omega, by omega⟩, ?_⟩
  refine for_i (fun pre ρ S' => S' = S ∧ ∃ v5, ρ = lsE s row e ((heldOf (row.take pre.length)).map pairP) [] v5 .un .un .un .un .un) (fun pre p post ee ρ S' ⟨hS, v5, hρ⟩ D' h1 h2 h3 h4 => ?_) ⟨rfl, _, rfl⟩ fun ρ S' ⟨hS, v5, hρ⟩ => ?_
  · subst hS hρ
    have hp : (rangeP 0 ((row.length : Int)).toNat)[pre.length]? = some p := by rw [ee]; simp
    have hk : pre.length < row.length := by
      have := (List.getElem?_eq_some_iff.mp hp).1
      rw [rangeP_len] at this
      omega
    have hp2 : p = .int (pre.length : Int) := by
      have e2 := rangeP_get (lo := 0) (n := ((row.length : Int)).toNat) (i := pre.length) (by omega)
      rw [hp] at e2
      simpa using e2
    subst hp2
    simp only [GN, List.set_cons_succ, List.set_cons_zero, LSF]
    refine asg_do (t2_do ?_)
    simp only [TV, List.getElem?_cons_succ, List.getElem?_cons_zero]
    have e1 : atI (oiL row) (pre.length : Int) = some (oiP row[pre.length]) := by
      rw [atNat (by omega) (by simp; omega)]
      simp
    refine ixY_tup e1 ?_
    simp only [GSY]
    simp only [TV, List.getElem?_cons_succ, List.getElem?_cons_zero]
    refine t_slot (k := pre.length) (by omega) rfl ?_
    have ea : ∀ {ρ : D.Env} {S : Store} {kvs : List (P × P)}, ρ[3]? = some (.own (.dct kvs)) → asDc ρ S (.loc 3) = some kvs := fun h => by simp only [asDc, h]
    unfold setDY
    rw [ea rfl]
    refine ⟨rfl, ?_, ?_⟩
    · rw [sizeLine_eq, List.length_map]
      unfold heldOf
      rw [List.length_cons, List.length_zip, List.length_take, show slots.length = 6 from rfl]
      omega
    · rw [held_put h6 pre.length hk]
      exact h1 _ _ ⟨rfl, .v (.int (pre.length : Int)), by rw [List.length_append, List.length_singleton]; rfl⟩
  · subst hS hρ
    rw [rangeP_len, List.take_length]
    dsimp only
    obtain ⟨i, hi⟩ := List.mem_iff_getElem?.mp he
    have hi' : i < s.rules.length := by rw [o.rl]; exact (List.getElem?_eq_some_iff.mp hi).1
    have hr : s.rules[i]? = some (s.rules[i]'hi') := List.getElem?_eq_getElem hi'
    generalize s.rules[i]'hi' = rule at hr
    obtain ⟨r1, r2⟩ := o.rn _ (List.mem_of_getElem? hr)
    rw [rule_at o hi hr] at h
    have ix : s.kinds.idxOf e.1 = i := idx_asc o.ka hi
    have src : ∀ (K : DQ), K (.v (ruleP rule)) (lsE s row e ((heldOf row).map pairP) [] v5 .un .un .un .un .un) S' →
        T2 (ixY ixD) (T2 (ixY ixD) (TV 0) (TC (P.int 3))) (TM tyT indexD (T2 (ixY ixD) (TV 0) (TC (P.int 1))) (ACons (T2 (ixY ixD) (TV 2) (TC (P.int 0))) (ANil))) (lsE s row e ((heldOf row).map pairP) [] v5 .un .un .un .un .un) S' K := by
      intro K k
      refine t2_do (t2_do ?_)
      simp only [TV, TC, List.getElem?_cons_succ, List.getElem?_cons_zero]
      refine ixY_tup (p := .tup (s.rules.map ruleP)) rfl ?_
      simp only [TM, ACons, ANil]
      refine t2_do ?_
      simp only [TV, TC, List.getElem?_cons_succ, List.getElem?_cons_zero]
      refine ixY_tup (p := .tup (strL s.kinds)) rfl ⟨⟨_, rfl⟩, t2_do ?_⟩
      simp only [TV, TC, List.getElem?_cons_succ, List.getElem?_cons_zero]
      refine ixY_tup (p := .str e.1) rfl ?_
      simp only [indexD, strsOf_strs]
      refine ⟨he, ?_⟩
      rw [ix]
      refine ixY_tup (p := ruleP rule) ?_ k
      rw [atNat (by omega) (by simp; omega)]
      simp only [Int.toNat_natCast, List.getElem_map]
      rw [(List.getElem?_eq_some_iff.mp hr).2]
    refine seq_do ?_
    simp only [SFor, ISeq]
    refine src _ ?_
    simp only [asI]
    refine for_i (fun pre ρ S1 => S1 = S' ∧ ∃ v6 v7 v8 v9 v10, ρ = lsE s row e ((heldOf row).map pairP) (oiL (stepF s.side (rule.take pre.length) row e.2)) v5 v6 v7 v8 v9 v10)
      (fun pre p post ee ρ S1 ⟨hS, v6, v7, v8, v9, v10, hρ⟩ D' h1 h2 h3 h4 => ?_) ⟨rfl, _, _, _, _, _, rfl⟩ fun ρ S1 ⟨hS, v6, v7, v8, v9, v10, hρ⟩ => ?_
    · subst hS hρ
      have hp : (rule.map tupS)[pre.length]? = some p := by rw [ee]; simp
      rw [List.getElem?_map] at hp
      obtain ⟨x, hx, rfl⟩ := Option.map_eq_some_iff.mp hp
      have hx2 : pre.length < rule.length := (List.getElem?_eq_some_iff.mp hx).1
      have hs6 := o.s6
      simp only [GN, List.set_cons_succ, List.set_cons_zero]
      refine ls_reg o o.s6 hrow (r2 x (List.mem_of_getElem? hx)) (by simp [stepF]; omega) fun v7 v8 v9 v10 => h1 _ _ ⟨rfl, .v (tupS x), v7, v8, v9, v10, ?_⟩
      rw [List.length_append, List.length_singleton, List.take_succ, hx]
      simp [stepF]
    · subst hS hρ
      rw [show rule.take (rule.map tupS).length = rule by rw [List.length_map, List.take_length]]
      simp only [SRet, TCall, ACons, ANil, TV, List.getElem?_cons_succ, List.getElem?_cons_zero, tupD, asQ, asL]
      exact h
end
theorem run_next {s : Stc} (l : List (Str × Int)) {i : Nat} {e : Str × Int} (h : l[i]? = some e) : runF s (l.take (i + 1)) = stepF s.side (ruleOf s e.1) (runF s (l.take i)) e.2 := by
  rw [List.take_succ, h]
  unfold runF
  rw [List.foldl_append]
  rfl
theorem rule_len {s : Stc} (o : Ok s) {k : Str} (hk : k ∈ s.kinds) : (ruleOf s k).length = s.start.length := by
  obtain ⟨i, hi⟩ := List.mem_iff_getElem?.mp hk
  have hi' : i < s.rules.length := by rw [o.rl]; exact (List.getElem?_eq_some_iff.mp hi).1
  have hr : s.rules[i]? = some (s.rules[i]'hi') := List.getElem?_eq_getElem hi'
  rw [rule_at o hi hr]
  exact (o.rn _ (List.mem_of_getElem? hr)).1
theorem run_len {s : Stc} (o : Ok s) {l : List (Str × Int)} (h : ∀ e ∈ l, e.1 ∈ s.kinds) : (runF s l).length = s.start.length := by
  have key : ∀ (l : List (Str × Int)) (row : Row), (∀ e ∈ l, e.1 ∈ s.kinds) → row.length = s.start.length → (l.foldl (fun row e => stepF s.side (ruleOf s e.1) row e.2) row).length = s.start.length := by
    intro l
    induction l with
    | nil => intro row _ h; exact h
    | cons e l ih =>
      intro row h hr
      exact ih _ (fun x hx => h x (List.mem_cons_of_mem _ hx)) (by rw [step_len]; exact rule_len o (h e (List.mem_cons_self ..)))
  exact key l _ h rfl
theorem s_lresult {s : Stc} {l : List (Str × Int)} {S : Store} {Q : P → Store → Prop} {E : DX} (o : Ok s) (hk : ∀ e ∈ l, e.1 ∈ s.kinds) (h : Q (oiP (callF s l)) S) : d__law_result [plP s, logP l] S Q E := by
  refine ⟨rfl, ?_⟩
  have a2 : ∀ {ρ : D.Env} {K : K1}, K (.tup (oiL s.start)) → ixD (.v (plP s)) (.v (.int 2)) ρ S K := fun k => k
  refine seq_do (asg_do (t2_do ?_))
  simp only [TV, TC, startE, N__law_result, List.map_cons, List.map_nil, List.cons_append, List.nil_append, List.length_cons, List.length_nil, List.replicate, List.getElem?_cons_succ, List.getElem?_cons_zero]
  refine a2 ?_
  simp only [GN, List.set_cons_succ, List.set_cons_zero]
  refine seq_do ?_
  simp only [SFor, ISeq, TV, List.getElem?_cons_succ, List.getElem?_cons_zero, asI]
  refine for_i (fun pre ρ S' => S' = S ∧ ∃ v3, ρ = [.v (plP s), .v (logP l), .v (.tup (oiL (runF s (l.take pre.length)))), v3]) (fun pre p post e ρ S' ⟨hS, v3, hρ⟩ D' h1 h2 h3 h4 => ?_) ⟨rfl, _, rfl⟩ fun ρ S' ⟨hS, v3, hρ⟩ => ?_
  · subst hS hρ
    have hp : (l.map evP)[pre.length]? = some p := by rw [e]; simp
    rw [List.getElem?_map] at hp
    obtain ⟨x, hx, rfl⟩ := Option.map_eq_some_iff.mp hp
    simp only [GN, List.set_cons_succ, List.set_cons_zero]
    refine asg_do ?_
    simp only [TCl, ACons, ANil, TV, vals, Option.map_some, List.append_nil, List.getElem?_cons_succ, List.getElem?_cons_zero]
    refine s_lstep o (run_len o fun z hz => hk z (List.mem_of_mem_take hz)) (hk x (List.mem_of_getElem? hx)) ?_
    refine h1 _ _ ⟨rfl, .v (evP x), ?_⟩
    rw [List.length_append, List.length_singleton, run_next l hx]
    rfl
  · subst hS hρ
    rw [show l.take (l.map evP).length = l by rw [List.length_map, List.take_length]]
    simp only [SRet, TCl, ACons, ANil, TV, vals, Option.map_some, List.append_nil, List.getElem?_cons_succ, List.getElem?_cons_zero]
    exact s_lend o (run_len o hk) h
end K08
/-! PK: plain forms as texts. -/
namespace K08
open PySem PySem.Spec L2 D
theorem sh_strL {B : Nat} {xs : List Str} (h : ∀ x ∈ xs, (reprText x).length ≤ B) : ∀ p ∈ strL xs, Sh 0 B p := fun p hp => by
  obtain ⟨s, hs, rfl⟩ := List.mem_map.mp hp
  exact Sh.str.mono (Nat.le_refl _) (h s hs)
theorem shT {n B : Nat} {xs : List P} (k C : Nat) (h : ∀ p ∈ xs, Sh n B p) (hl : xs.length ≤ k) (hC : 3 + k * (B + 2) ≤ C) : Sh (n + 1) C (.tup xs) :=
  (Sh.tup h).mono (Nat.le_refl _) (Nat.le_trans (Nat.add_le_add_left (Nat.mul_le_mul_right _ hl) 3) hC)
theorem shL {n B : Nat} {xs : List P} (k C : Nat) (h : ∀ p ∈ xs, Sh n B p) (hl : xs.length ≤ k) (hC : 3 + k * (B + 2) ≤ C) : Sh (n + 1) C (.lst xs) :=
  (Sh.lst h).mono (Nat.le_refl _) (Nat.le_trans (Nat.add_le_add_left (Nat.mul_le_mul_right _ hl) 3) hC)
theorem rep_known : ((known 6).all fun s => decide ((reprText s).length ≤ 12)) = true := by decide +kernel
theorem known_six {n : Nat} (h : n ≤ 6) {s : Str} (hs : s ∈ known n) : (reprText s).length ≤ 12 := by
  have e : ∀ n : Nat, n < 7 → ((known n).all fun s => (known 6).contains s) = true := by decide +kernel
  have := List.all_eq_true.mp (e n (by omega)) s hs
  have h2 := List.all_eq_true.mp rep_known s (by simpa using this)
  simpa using h2
theorem sh_parts {s : Stc} (o : Ok s) (hk : ∀ k ∈ s.kinds, (reprText k).length ≤ 12) : Sh 1 100 (.tup (strL s.kinds)) ∧ Sh 1 100 (.tup (oiL s.start)) ∧ Sh 3 5000 (.tup (s.rules.map ruleP)) ∧ Sh 1 100 (.tup (strL s.ends)) := by
  have sl : slots.length = 6 := rfl
  have k1 : Sh 1 100 (.tup (strL s.kinds)) := shT 4 100 (sh_strL hk) (by rw [List.length_map]; exact o.k4) (by decide)
  have k2 : Sh 1 100 (.tup (oiL s.start)) := shT 6 100 (B := 5) (fun p hp => by
    obtain ⟨x, hx, rfl⟩ := List.mem_map.mp hp
    rcases o.ss x hx with rfl | rfl
    · exact Sh.non.mono (Nat.le_refl _) (by decide)
    · exact (Sh.int (i := 0) (k := 1) (by decide) (by decide) (by decide)).mono (Nat.le_refl _) (by decide)) (by rw [List.length_map]; exact o.s6) (by decide)
  have k3 : Sh 3 5000 (.tup (s.rules.map ruleP)) := shT 4 5000 (B := 1220) (fun p hp => by
    obtain ⟨r, hr, rfl⟩ := List.mem_map.mp hp; obtain ⟨r1, r2⟩ := o.rn r hr
    refine shT 6 1220 (B := 200) (fun p hp => ?_) (by rw [List.length_map, r1]; exact o.s6) (by decide)
    obtain ⟨t, ht, rfl⟩ := List.mem_map.mp hp
    refine shT 14 200 (sh_strL (B := 12) fun x hx => known_six o.s6 ((r2 t ht).subset hx)) ?_ (by decide)
    rw [List.length_map]
    exact Nat.le_trans (r2 t ht).length_le (known_len o.s6)) (by rw [List.length_map, o.rl]; exact o.k4) (by decide)
  have e6 : (slots.all fun s => decide ((reprText s).length ≤ 12)) = true := by decide +kernel
  have k4 : Sh 1 100 (.tup (strL s.ends)) := shT 6 100 (sh_strL (B := 12) fun x hx => by
    have := List.all_eq_true.mp e6 x (List.mem_of_mem_take (o.es.subset hx))
    simpa using this) (by rw [List.length_map]; exact Nat.le_trans o.es.length_le (by rw [List.length_take]; omega)) (by decide)
  exact ⟨k1, k2, k3, k4⟩
theorem sh_plain {s : Stc} (o : Ok s) (hk : ∀ k ∈ s.kinds, (reprText k).length ≤ 12) : Sh 4 30000 (plP s) := by
  obtain ⟨k1, k2, k3, k4⟩ := sh_parts o hk
  have e7 : ∀ b : Bool, (reprText (sideS b)).length ≤ 12 := by decide +kernel
  have k0 : Sh 0 12 (.str (sideS s.side)) := Sh.str.mono (Nat.le_refl _) (e7 _)
  refine shT 5 30000 (n := 3) (B := 5000) (fun p hp => ?_) (Nat.le_refl _) (by decide)
  simp only [List.mem_cons, List.not_mem_nil, or_false] at hp
  rcases hp with rfl | rfl | rfl | rfl | rfl
  · exact k0.mono (by decide) (by decide)
  · exact k1.mono (by decide) (by decide)
  · exact k2.mono (by decide) (by decide)
  · exact k3.mono (by decide) (by decide)
  · exact k4.mono (by decide) (by decide)
theorem rep_names : (nameLs.all fun l => l.all fun s => decide ((reprText s).length ≤ 12)) = true := by decide +kernel
theorem name_len {l : List Str} (hl : l ∈ nameLs) {m : Nat} : ∀ k ∈ l.take m, (reprText k).length ≤ 12 := fun k hk => by
  have := List.all_eq_true.mp (List.all_eq_true.mp rep_names l hl) k (List.mem_of_mem_take hk)
  simpa using this
end K08
/-! PL: the text of a statistic, line by line. -/
namespace K08
open PySem PySem.Spec L2 D
theorem strL_app (a b : List Str) : strL (a ++ b) = strL a ++ strL b := List.map_append
theorem strsOf_strL : ∀ ys : List Str, strsOf (strL ys) = some ys
  | [] => rfl
  | y :: ys => by
    show (strsOf (strL ys)).map (y :: ·) = _
    rw [strsOf_strL ys]; rfl
theorem sum_le {B : Nat} : ∀ {ys : List Str}, (∀ y ∈ ys, y.length ≤ B) → (ys.map (·.length)).sum ≤ ys.length * B
  | [], _ => Nat.zero_le _
  | y :: ys, h => by
    have h1 := h y (List.mem_cons_self ..); have h2 := sum_le (ys := ys) fun z hz => h z (List.mem_cons_of_mem _ hz)
    simp only [List.map_cons, List.sum_cons, List.length_cons, Nat.add_mul, Nat.one_mul]; omega
theorem join_le {B k a : Nat} {sep : Str} {ys : List Str} (h : ∀ y ∈ ys, y.length ≤ B) (hl : ys.length ≤ k) (ha : sep.length ≤ a) : (Str.join sep ys).length ≤ k * B + k * a ∧ (ys.map (·.length)).sum + ys.length * sep.length ≤ k * B + k * a := by
  have h1 := sum_le h
  have h2 := StrLaws.join_length_le sep ys
  have h3 : ys.length * B ≤ k * B := Nat.mul_le_mul_right _ hl
  have h4 : ys.length * sep.length ≤ k * a := Nat.mul_le_mul hl ha
  exact ⟨by omega, by omega⟩
theorem acons_do {t : DT} {u : DA} {ρ : D.Env} {S : Store} {K : List R → D.Env → Store → Prop} (h : t ρ S fun r ρ1 S1 => u ρ1 S1 fun rs ρ2 S2 => K (r :: rs) ρ2 S2) : ACons t u ρ S K := h
theorem astar_own {i : Nat} {ps : List P} {u : DA} {ρ : D.Env} {S : Store} {K : List R → D.Env → Store → Prop} (hr : ρ[i]? = some (.own (.lst ps))) (h : u ρ S fun rs ρ2 S2 => K (ps.map R.v ++ rs) ρ2 S2) : AStar (TV i) u ρ S K := by
  simp only [AStar, TV, hr, asQ, asL]
  exact h
/-- sep.join(..) -/
theorem t_join {sep : Str} {T : DT} {r : R} {ys : List Str} {ρ : D.Env} {S : Store} {Q : DQ} (hT : ∀ K : DQ, K r ρ S → T ρ S K) (hq : asQ ρ S r = some (strL ys)) (hl : (ys.map (·.length)).sum + ys.length * sep.length ≤ 16000000)
    (h : Q (.v (.str (Str.join sep ys))) ρ S) : TM tyS joinD (TC (P.str sep)) (ACons T (ANil)) ρ S Q := by
  simp only [TM, TC, ACons, ANil]
  refine ⟨⟨_, rfl⟩, hT _ ?_⟩
  simp only [joinD, hq, strsOf_strL]
  exact ⟨hl, h⟩
/-- sep.join([word, *..]) -/
theorem t_joinW {sep w : Str} {T : DT} {r : R} {ys : List Str} {ρ : D.Env} {S : Store} {Q : DQ} (hT : ∀ K : DQ, K r ρ S → T ρ S K) (hq : asQ ρ S r = some (strL ys)) (hn : ys.length ≤ 1000) (hl : ((w :: ys).map (·.length)).sum + (w :: ys).length * sep.length ≤ 16000000)
    (h : Q (.v (.str (Str.join sep (w :: ys)))) ρ S) : TM tyS joinD (TC (P.str sep)) (ACons (TLst (ACons (TC (P.str w)) (AStar T (ANil)))) (ANil)) ρ S Q := by
  refine t_join (r := .v (.lst (strL (w :: ys)))) (fun K k => ?_) rfl hl h
  simp only [TLst, ACons, ANil, TC, AStar]
  refine hT _ ?_
  simp only [hq]
  have e : vals (R.v (.str w) :: (List.map R.v (strL ys) ++ [])) = some (strL (w :: ys)) := by
    show (vals (List.map R.v (strL ys) ++ [])).map (P.str w :: ·) = _
    rw [valsApp]
    simp [vals, strL]
  rw [e]
  exact ⟨szN (by simp; omega), k⟩
def startW (x : Option Int) : Str := if x.isNone = true then "-" else "0"
def orS (j : Str) : Str := if ((j.length : Int) != 0) = true then j else "-"
def termLine (x : Str) (t : List Str) : Str := x ++ (" = " : Str) ++ orS (Str.join ", " t)
def ruleLine (k : Str) (r : List (List Str)) : Str := (("on " : Str) ++ k ++ (": " : Str)) ++ Str.join "; " (List.zipWith termLine slots r)
def linesF (s : Stc) : List Str := ([sideS s.side, Str.join " " ("kinds" :: s.kinds), Str.join " " ("start" :: s.start.map startW)] ++ List.zipWith ruleLine s.kinds s.rules) ++ [Str.join " " ("result" :: s.ends)]
theorem zipP_str {α : Type} (f : α → P) (xs : List Str) (ys : List α) : zipP (strL xs) (ys.map f) = (List.zip xs ys).map fun e => .row [.str e.1, f e.2] := by
  unfold zipP
  rw [List.zipWith_map_left, List.zipWith_map_right, List.zip, List.map_zipWith]
theorem isKindS_len {k : Str} (h : isKindS k = true) : k.length ≤ 8 := by
  unfold isKindS at h
  simp only [Bool.and_eq_true, decide_eq_true_eq] at h; omega
theorem known_four {n : Nat} (h : n ≤ 6) {s : Str} (hs : s ∈ known n) : s.length ≤ 4 := by
  have e : ∀ n : Nat, n < 7 → ((known n).all fun s => decide (s.length ≤ 4)) = true := by decide +kernel
  have := List.all_eq_true.mp (e n (by omega)) s hs
  simpa using this
theorem slots_two {s : Str} (hs : s ∈ slots) : s.length ≤ 2 := by
  have e : (slots.all fun s => decide (s.length ≤ 2)) = true := by decide +kernel
  have := List.all_eq_true.mp e s hs
  simpa using this
theorem terms_le {n : Nat} {t : List Str} (h : n ≤ 6) (ht : t.Sublist (known n)) : (orS (Str.join ", " t)).length ≤ 84 ∧ (t.map (·.length)).sum + t.length * ((", " : Str)).length ≤ 84 := by
  obtain ⟨a, b⟩ := join_le (B := 4) (k := 14) (a := 2) (sep := ", ") (ys := t) (fun y hy => known_four h (ht.subset hy)) (Nat.le_trans ht.length_le (known_len h)) (by decide +kernel)
  refine ⟨?_, by omega⟩
  unfold orS
  split
  · omega
  · decide +kernel
theorem termLine_le {n : Nat} {x : Str} {t : List Str} (h : n ≤ 6) (hx : x ∈ slots) (ht : t.Sublist (known n)) : (termLine x t).length ≤ 90 := by
  have h1 := (terms_le h ht).1
  have h2 := slots_two hx
  have c1 : (" = " : Str).length = 3 := rfl
  unfold termLine
  rw [cat_len, cat_len, c1]
  omega
theorem ruleLine_le {n : Nat} {k : Str} {r : List (List Str)} (h : n ≤ 6) (hk : k.length ≤ 8) (hr : ∀ t ∈ r, t.Sublist (known n)) : (ruleLine k r).length ≤ 600 ∧ ((List.zipWith termLine slots r).map (·.length)).sum + (List.zipWith termLine slots r).length * ("; " : Str).length ≤ 600 := by
  obtain ⟨a, b⟩ := join_le (B := 90) (k := 6) (a := 2) (sep := "; ") (ys := List.zipWith termLine slots r) (fun y hy => by
    rw [← List.map_uncurry_zip_eq_zipWith] at hy
    obtain ⟨⟨x, t⟩, hxt, rfl⟩ := List.mem_map.mp hy
    exact termLine_le h (List.of_mem_zip hxt).1 (hr t (List.of_mem_zip hxt).2)) (by rw [List.length_zipWith]; exact Nat.min_le_left _ _) (by decide +kernel)
  have c1 : ("on " : Str).length = 3 := rfl
  have c2 : (": " : Str).length = 2 := rfl
  refine ⟨?_, by omega⟩
  unfold ruleLine
  rw [cat_len, cat_len, cat_len, c1, c2]
  omega
theorem emp_catL (s : Str) : Str.empty ++ s = s := by
  show Str.mk (#[] ++ s.cps) = s
  simp
/-- f"{x} = {', '.join(t) or '-'}" -/
theorem t_term {n : Nat} {x : Str} {t : List Str} {i j : Nat} {ρ : D.Env} {S : Store} {Q : DQ} (hn : n ≤ 6) (hx : x ∈ slots) (ht : t.Sublist (known n)) (h1 : ρ[i]? = some (.v (.str x))) (h2 : ρ[j]? = some (.v (tupS t)))
    (h : Q (.v (.str (termLine x t))) ρ S) : TFj [TFmt (TV i), TC (P.str " = "), TFmt (TOr (TM tyS joinD (TC (P.str ", ")) (ACons (TV j) (ANil))) (TC (P.str "-")))] ρ S Q := by
  have sz := sizeLine_eq
  obtain ⟨t1, t2⟩ := terms_le hn ht
  have x2 := slots_two hx
  have c1 : (" = " : Str).length = 3 := rfl
  simp only [TFj, fjD, TFmt, TC, TV, h1, emp_catL]
  refine ⟨by omega, by rw [cat_len, c1]; omega, ?_⟩
  simp only [TOr]
  refine t_join (r := .v (tupS t)) (tv_do h2) rfl (Nat.le_trans t2 (by decide)) ?_
  have hO : orS (Str.join ", " t) = if ((((Str.join ", " t).length : Int) != 0) = true) then Str.join ", " t else "-" := rfl
  simp only [truD]
  cases c : ((((Str.join ", " t).length : Int) != 0)) with
  | true =>
    rw [c] at hO
    simp only [if_true] at hO
    rw [hO] at t1
    simp only
    refine ⟨by rw [cat_len, cat_len, c1]; omega, ?_⟩
    unfold termLine at h
    rw [hO] at h
    exact h
  | false =>
    rw [c] at hO
    simp only [Bool.false_eq_true, if_false] at hO
    rw [hO] at t1
    simp only
    refine ⟨by rw [cat_len, cat_len, c1]; omega, ?_⟩
    unfold termLine at h
    rw [hO] at h
    exact h
theorem zip_at {α β : Type} {xs : List α} {ys : List β} {f : α → β → P} {pre post : List P} {p : P} (e : (List.zip xs ys).map (fun e => f e.1 e.2) = pre ++ p :: post) :
    ∃ x y, xs[pre.length]? = some x ∧ ys[pre.length]? = some y ∧ p = f x y := by
  have hp : ((List.zip xs ys).map (fun e => f e.1 e.2))[pre.length]? = some p := by rw [e]; simp
  rw [List.getElem?_map] at hp
  obtain ⟨⟨x, y⟩, hz, rfl⟩ := Option.map_eq_some_iff.mp hp
  obtain ⟨h1, h2⟩ := List.getElem?_zip_eq_some.mp hz
  exact ⟨x, y, h1, h2, rfl⟩
theorem zipWith_next {α β γ : Type} {xs : List α} {ys : List β} {f : α → β → γ} {n : Nat} {x : α} {y : β} (h1 : xs[n]? = some x) (h2 : ys[n]? = some y) : (List.zipWith f xs ys).take (n + 1) = (List.zipWith f xs ys).take n ++ [f x y] := by
  have e : (List.zipWith f xs ys)[n]? = some (f x y) := by rw [List.getElem?_zipWith, h1, h2]
  rw [List.take_succ, e]; rfl
def LN1 (W : DXr) : DS := SExpr (TM tyL appD (TV 11) (ACons (TFj [TFmt (TV 12), TC (P.str " = "), TFmt (TOr (TM tyS joinD (TC (P.str ", ")) (ACons (TV 13) (ANil))) (TC (P.str "-")))]) (ANil)))
def LN2 (W : DXr) : DS := SExpr (TM tyL appD (TV 8) (ACons (TFj [TC (P.str "on "), TFmt (TV 9), TC (P.str ": "), TFmt (TM tyS joinD (TC (P.str "; ")) (ACons (TV 11) (ANil)))]) (ANil)))
section
variable {s : Stc} {S : Store} {Dn : DEnds} {v6 v7 v8 v9 v10 v11 v12 v13 : Sl} {W : DXr}
abbrev lnE (s : Stc) (v6 v7 v8 v9 v10 v11 v12 v13 : Sl) : D.Env := [.v (plP s), .v (.str (sideS s.side)), .v (.tup (strL s.kinds)), .v (.tup (oiL s.start)), .v (.tup (s.rules.map ruleP)), .v (.tup (strL s.ends)), v6, v7, v8, v9, v10, v11, v12, v13]
theorem ln_start (o : Ok s) (h : Dn.nx (lnE s (.v (.lst (strL (s.start.map startW)))) .un v8 v9 v10 v11 v12 v13) S) :
    SAsg (TFz (NLc (ISeq (TV 3)) (GN 7) (BYes) (TIf (B2 isD (TV 7) (TC P.non)) (TC (P.str "-")) (TC (P.str "0"))) [7])) (GN 6) Dn (lnE s v6 .un v8 v9 v10 v11 v12 v13) S := by
  have s6 := o.s6
  refine asg_do ?_
  simp only [TFz, NLc, ISeq, TV, List.getElem?_cons_succ, List.getElem?_cons_zero, asI]
  refine ⟨szN (by simp; omega), ?_⟩
  refine comp_map (fun p => if _root_.D.isNon p = true then P.str "-" else P.str "0") _ _ (fun p hp K k => ?_) ?_
  · simp only [GN, TIf, lnE, wipeE, List.set_cons_succ, List.set_cons_zero]
    refine t2b_do ?_
    simp only [TV, TC, List.getElem?_cons_succ, List.getElem?_cons_zero, isD]
    cases hq : _root_.D.isNon p <;> simp only [hq, Bool.false_eq_true, if_false, if_true] at k ⊢ <;> exact k _ rfl
  · have e : (oiL s.start).map (fun p => if _root_.D.isNon p = true then P.str "-" else P.str "0") = strL (s.start.map startW) := by
      unfold oiL strL
      rw [List.map_map, List.map_map]; refine List.map_congr_left fun x _ => ?_
      cases x <;> rfl
    simp only [List.nil_append, frzO, e, GN, List.set_cons_succ, List.set_cons_zero]
    exact h
theorem ln_head (o : Ok s) (h : Dn.nx (lnE s (.v (.lst (strL (s.start.map startW)))) v7 (.own (.lst (strL [sideS s.side, Str.join " " ("kinds" :: s.kinds), Str.join " " ("start" :: s.start.map startW)]))) v9 v10 v11 v12 v13) S) :
    SOwn 8 (NLst (ACons (TV 1) (ACons (TM tyS joinD (TC (P.str " ")) (ACons (TLst (ACons (TC (P.str "kinds")) (AStar (TV 2) (ANil)))) (ANil))) (ACons (TM tyS joinD (TC (P.str " ")) (ACons (TLst (ACons (TC (P.str "start")) (AStar (TV 6) (ANil)))) (ANil))) (ANil))))) Dn
      (lnE s (.v (.lst (strL (s.start.map startW)))) v7 v8 v9 v10 v11 v12 v13) S := by
  have k4 := o.k4
  have s6 := o.s6
  have b1 := (join_le (B := 8) (k := 5) (a := 1) (sep := " ") (ys := "kinds" :: s.kinds) (fun y hy => by
    rcases (List.mem_cons.mp hy) with rfl | hy
    · decide +kernel
    · exact isKindS_len (o.kk y hy)) (by simp; omega) (by decide +kernel)).2
  have b2 := (join_le (B := 5) (k := 7) (a := 1) (sep := " ") (ys := "start" :: s.start.map startW) (fun y hy => by
    rcases (List.mem_cons.mp hy) with rfl | hy
    · decide +kernel
    · obtain ⟨x, _, rfl⟩ := List.mem_map.mp hy
      cases x with
      | none => show ("-" : Str).length ≤ 5; decide +kernel
      | some _ => show ("0" : Str).length ≤ 5; decide +kernel) (by simp; omega) (by decide +kernel)).2
  have go : ∀ (K : List R → D.Env → Store → Prop), K [.v (.str (sideS s.side)), .v (.str (Str.join " " ("kinds" :: s.kinds))), .v (.str (Str.join " " ("start" :: s.start.map startW)))] (lnE s (.v (.lst (strL (s.start.map startW)))) v7 v8 v9 v10 v11 v12 v13) S →
      (ACons (TV 1) (ACons (TM tyS joinD (TC (P.str " ")) (ACons (TLst (ACons (TC (P.str "kinds")) (AStar (TV 2) (ANil)))) (ANil))) (ACons (TM tyS joinD (TC (P.str " ")) (ACons (TLst (ACons (TC (P.str "start")) (AStar (TV 6) (ANil)))) (ANil))) (ANil)))) (lnE s (.v (.lst (strL (s.start.map startW)))) v7 v8 v9 v10 v11 v12 v13) S K := by
    intro K k
    refine acons_do (tv_do rfl _ ?_)
    refine acons_do (t_joinW (r := .v (.tup (strL s.kinds))) (ys := s.kinds) (tv_do rfl) rfl (by omega) (Nat.le_trans b1 (by decide)) ?_)
    refine acons_do (t_joinW (r := .v (.lst (strL (s.start.map startW)))) (ys := s.start.map startW) (tv_do rfl) rfl (by simp; omega) (Nat.le_trans b2 (by decide)) ?_)
    exact k
  simp only [SOwn, NLst]
  refine go _ ?_
  simp only [vals, Option.map_some]
  refine ⟨szN (by show (3 : Nat) ≤ 10000000; decide), ?_⟩
  simp only [List.set_cons_succ, List.set_cons_zero]
  exact h
theorem ln_inner {r : List (List Str)} {n : Nat} (hn : n ≤ 6) (hr : ∀ t ∈ r, t.Sublist (known n)) (h : ∀ v12 v13, Dn.nx (lnE s v6 v7 v8 v9 (.v (ruleP r)) (.own (.lst (strL (List.zipWith termLine slots r)))) v12 v13) S) :
    SFor (IZs (A2k (ACons (TC (P.tup [(P.str "r0"), (P.str "r1"), (P.str "r2"), (P.str "r3"), (P.str "r4"), (P.str "r5")])) (ACons (TV 10) (ANil))) (ACons (TC (P.bl false)) (ANil)))) (GT 2 (GCons (GN 12) (GCons (GN 13) (GNil)))) (LN1 W) Dn
      (lnE s v6 v7 v8 v9 (.v (ruleP r)) (.own (.lst [])) v12 v13) S := by
  have hz : zipP [(P.str "r0"), (P.str "r1"), (P.str "r2"), (P.str "r3"), (P.str "r4"), (P.str "r5")] (r.map tupS) = (List.zip slots r).map fun e => P.row [.str e.1, tupS e.2] := zipP_str tupS slots r
  simp only [SFor, IZs, A2k, ACons, ANil, TC, TV, List.getElem?_cons_succ, List.getElem?_cons_zero, asI]
  refine ⟨(fun e => by cases e), ?_⟩
  rw [hz]
  refine for_i (fun pre ρ S' => S' = S ∧ ∃ v12 v13, ρ = lnE s v6 v7 v8 v9 (.v (ruleP r)) (.own (.lst (strL ((List.zipWith termLine slots r).take pre.length)))) v12 v13) (fun pre p post e ρ S' ⟨hS, v12, v13, hρ⟩ D' h1 h2 h3 h4 => ?_) ⟨rfl, _, _, rfl⟩ fun ρ S' ⟨hS, v12, v13, hρ⟩ => ?_
  · subst hS hρ
    obtain ⟨x, t, hx, ht, rfl⟩ := zip_at (f := fun x t => P.row [.str x, tupS t]) e
    simp only [GT, GCons, GN, GNil, List.set_cons_succ, List.set_cons_zero]
    refine ⟨rfl, ?_⟩
    simp only [LN1, SExpr, TM, ACons, ANil]
    simp only [TV, List.getElem?_cons_succ, List.getElem?_cons_zero]
    refine ⟨rfl, ?_⟩
    refine t_term hn (List.mem_of_getElem? hx) (hr t (List.mem_of_getElem? ht)) rfl rfl ?_
    have hl : (strL ((List.zipWith termLine slots r).take pre.length)).length < sizeLine := by
      have : slots.length = 6 := rfl
      rw [sizeLine_eq, List.length_map, List.length_take, List.length_zipWith]
      omega
    simp only [appD, wrL, List.getElem?_cons_succ, List.getElem?_cons_zero]
    refine ⟨hl, ?_⟩
    refine h1 _ _ ⟨rfl, .v (.str x), .v (tupS t), ?_⟩
    simp only [List.set_cons_succ, List.set_cons_zero, List.length_append, List.length_singleton]
    rw [zipWith_next hx ht, strL_app]
    rfl
  · subst hS hρ
    have e : (List.zipWith termLine slots r).take ((List.zip slots r).map fun e => P.row [.str e.1, tupS e.2]).length = List.zipWith termLine slots r := by
      refine List.take_of_length_le ?_
      rw [List.length_map, List.length_zip, List.length_zipWith]
      exact Nat.le_refl _
    rw [e]
    exact h v12 v13
theorem s_lines {Q : P → Store → Prop} {E : DX} (o : Ok s) (h : Q (.lst (strL (linesF s))) S) : d_lines_of [plP s] S Q E := by
  have k4 := o.k4
  have s6 := o.s6
  have rl := o.rl
  refine ⟨rfl, ?_⟩
  refine seq_do (asg_do ?_)
  simp only [TV, startE, N_lines_of, List.map_cons, List.map_nil, List.cons_append, List.nil_append, List.length_cons, List.length_nil, List.replicate, List.getElem?_cons_zero]
  simp only [GT, GCons, GN, GNil, plP, List.set_cons_succ, List.set_cons_zero]
  refine ⟨rfl, ?_⟩
  refine seq_do (ln_start o ?_)
  refine seq_do (ln_head o ?_)
  refine seq_do ?_
  simp only [SFor, IZs, A2k, ACons, ANil, TC, TV, List.getElem?_cons_succ, List.getElem?_cons_zero, asI]
  refine ⟨fun _ => by simp [rl], ?_⟩
  rw [zipP_str]
  refine for_i (fun pre ρ S' => S' = S ∧ ∃ v9 v10 v11 v12 v13, ρ = lnE s (.v (.lst (strL (s.start.map startW)))) .un (.own (.lst (strL ([sideS s.side, Str.join " " ("kinds" :: s.kinds), Str.join " " ("start" :: s.start.map startW)] ++ (List.zipWith ruleLine s.kinds s.rules).take pre.length)))) v9 v10 v11 v12 v13)
    (fun pre p post e ρ S' ⟨hS, v9, v10, v11, v12, v13, hρ⟩ D' h1 h2 h3 h4 => ?_) ⟨rfl, _, _, _, _, _, rfl⟩ fun ρ S' ⟨hS, v9, v10, v11, v12, v13, hρ⟩ => ?_
  · subst hS hρ
    obtain ⟨k, r, hk, hr, rfl⟩ := zip_at (f := fun x t => P.row [.str x, ruleP t]) e
    have km := o.kk k (List.mem_of_getElem? hk)
    have rm := o.rn r (List.mem_of_getElem? hr)
    obtain ⟨b1, b2⟩ := ruleLine_le s6 (isKindS_len km) rm.2
    simp only [GT, GCons, GN, GNil, List.set_cons_succ, List.set_cons_zero]
    refine ⟨rfl, ?_⟩
    refine seq_do ?_
    simp only [SOwn, NLst, ANil, vals]
    refine ⟨szN (Nat.zero_le _), ?_⟩
    simp only [List.set_cons_succ, List.set_cons_zero]
    refine seq_do (ln_inner (W := fun c fs x S' => E c fs S') s6 rm.2 fun v12 v13 => ?_)
    simp only [SExpr, TM, ACons, ANil]
    simp only [TV, List.getElem?_cons_succ, List.getElem?_cons_zero]
    refine ⟨rfl, ?_⟩
    have sz := sizeLine_eq
    have c1 : ("on " : Str).length = 3 := rfl
    have c2 : (": " : Str).length = 2 := rfl
    have kl := isKindS_len km
    unfold ruleLine at b1
    rw [cat_len, cat_len, cat_len, c1, c2] at b1
    simp only [TFj, fjD, TFmt, TC, TV, List.getElem?_cons_succ, List.getElem?_cons_zero, emp_catL]
    refine ⟨by rw [c1]; omega, by rw [cat_len, c1]; omega, by rw [cat_len, cat_len, c1, c2]; omega, ?_⟩
    show TM tyS joinD (TC (P.str "; ")) (ACons (TV 11) (ANil)) _ _ _
    refine t_join (r := .loc 11) (ys := List.zipWith termLine slots r) (fun K k => k) rfl (Nat.le_trans b2 (by decide)) ?_
    simp only
    refine ⟨by rw [cat_len, cat_len, cat_len, c1, c2]; omega, ?_⟩
    have hl : (strL ([sideS s.side, Str.join " " ("kinds" :: s.kinds), Str.join " " ("start" :: s.start.map startW)] ++ (List.zipWith ruleLine s.kinds s.rules).take pre.length)).length < sizeLine := by
      rw [sizeLine_eq, List.length_map, List.length_append, List.length_take, List.length_zipWith]
      simp only [List.length_nil, List.length_cons]
      omega
    simp only [appD, wrL, List.getElem?_cons_succ, List.getElem?_cons_zero]
    refine ⟨hl, ?_⟩
    refine h1 _ _ ⟨rfl, .v (.str k), .v (ruleP r), .own (.lst (strL (List.zipWith termLine slots r))), v12, v13, ?_⟩
    simp only [List.set_cons_succ, List.set_cons_zero, List.length_append, List.length_singleton]
    have e3 := congrArg strL (congrArg ([sideS s.side, Str.join " " ("kinds" :: s.kinds), Str.join " " ("start" :: s.start.map startW)] ++ ·) (zipWith_next (f := ruleLine) hk hr))
    simp only [← List.append_assoc] at e3
    rw [strL_app (_ ++ _) [_]] at e3
    rw [e3]
    rfl
  · subst hS hρ
    have e : (List.zipWith ruleLine s.kinds s.rules).take ((List.zip s.kinds s.rules).map fun e => P.row [.str e.1, ruleP e.2]).length = List.zipWith ruleLine s.kinds s.rules := by
      refine List.take_of_length_le ?_
      rw [List.length_map, List.length_zip, List.length_zipWith]
      exact Nat.le_refl _
    rw [e]
    have es : s.ends.length ≤ 6 := Nat.le_trans o.es.length_le (by rw [List.length_take]; have : slots.length = 6 := rfl; omega)
    have b2 := (join_le (B := 6) (k := 7) (a := 1) (sep := " ") (ys := "result" :: s.ends) (fun y hy => by
      rcases (List.mem_cons.mp hy) with rfl | hy
      · decide +kernel
      · exact Nat.le_trans (slots_two (List.mem_of_mem_take (o.es.subset hy))) (by decide)) (by simp; omega) (by decide +kernel)).2
    simp only [SRet]
    have go : ∀ (K : List R → D.Env → Store → Prop) (ls : List Str), (K (List.map R.v (strL ls) ++ [.v (.str (Str.join " " ("result" :: s.ends)))]) (lnE s (.v (.lst (strL (s.start.map startW)))) .un (.own (.lst (strL ls))) v9 v10 v11 v12 v13) S') →
        (AStar (TV 8) (ACons (TM tyS joinD (TC (P.str " ")) (ACons (TLst (ACons (TC (P.str "result")) (AStar (TV 5) (ANil)))) (ANil))) (ANil))) (lnE s (.v (.lst (strL (s.start.map startW)))) .un (.own (.lst (strL ls))) v9 v10 v11 v12 v13) S' K := by
      intro K ls k
      refine astar_own rfl ?_
      refine acons_do (t_joinW (r := .v (.tup (strL s.ends))) (ys := s.ends) (tv_do rfl) rfl (by omega) (Nat.le_trans b2 (by decide)) ?_)
      exact k
    simp only [TLst]
    refine go _ _ ?_
    rw [valsApp]
    simp only [vals, Option.map_some]
    refine ⟨szN (by simp; omega), ?_⟩
    have e2 : strL ([sideS s.side, Str.join " " ("kinds" :: s.kinds), Str.join " " ("start" :: s.start.map startW)] ++ List.zipWith ruleLine s.kinds s.rules) ++ [P.str (Str.join " " ("result" :: s.ends))] = strL (linesF s) := by
      unfold linesF
      rw [strL_app (_ ++ _) [_]]
      rfl
    rw [e2]
    exact h
theorem linesF_le (o : Ok s) : (∀ y ∈ linesF s, y.length ≤ 600) ∧ (linesF s).length ≤ 8 := by
  have k4 := o.k4
  have s6 := o.s6
  have rl := o.rl
  have es : s.ends.length ≤ 6 := Nat.le_trans o.es.length_le (by rw [List.length_take]; have : slots.length = 6 := rfl; omega)
  have b1 := (join_le (B := 8) (k := 5) (a := 1) (sep := " ") (ys := "kinds" :: s.kinds) (fun y hy => by
    rcases (List.mem_cons.mp hy) with rfl | hy
    · decide +kernel
    · exact isKindS_len (o.kk y hy)) (by simp; omega) (by decide +kernel)).1
  have b2 := (join_le (B := 5) (k := 7) (a := 1) (sep := " ") (ys := "start" :: s.start.map startW) (fun y hy => by
    rcases (List.mem_cons.mp hy) with rfl | hy
    · decide +kernel
    · obtain ⟨x, _, rfl⟩ := List.mem_map.mp hy
      cases x with
      | none => show ("-" : Str).length ≤ 5; decide +kernel
      | some _ => show ("0" : Str).length ≤ 5; decide +kernel) (by simp; omega) (by decide +kernel)).1
  have b3 := (join_le (B := 6) (k := 7) (a := 1) (sep := " ") (ys := "result" :: s.ends) (fun y hy => by
    rcases (List.mem_cons.mp hy) with rfl | hy
    · decide +kernel
    · exact Nat.le_trans (slots_two (List.mem_of_mem_take (o.es.subset hy))) (by decide)) (by simp; omega) (by decide +kernel)).1
  have b0 : ∀ b : Bool, (sideS b).length ≤ 600 := by decide +kernel
  refine ⟨fun y hy => ?_, ?_⟩
  · unfold linesF at hy
    simp only [List.mem_append, List.mem_cons, List.not_mem_nil, or_false] at hy
    rcases hy with ((rfl | rfl | rfl) | hy) | rfl
    · exact b0 _
    · omega
    · omega
    · rw [← List.map_uncurry_zip_eq_zipWith] at hy
      obtain ⟨⟨k, r⟩, hz, rfl⟩ := List.mem_map.mp hy
      have hz' := List.of_mem_zip hz
      exact (ruleLine_le s6 (isKindS_len (o.kk k hz'.1)) (o.rn r hz'.2).2).1
    · omega
  · unfold linesF
    simp only [List.length_append, List.length_cons, List.length_nil, List.length_zipWith]
    omega
def textF (s : Stc) : Str := Str.join "\n" (linesF s)
theorem s_str {Q : P → Store → Prop} {E : DX} (o : Ok s) (h : Q (.str (textF s)) S) : d_Statistic___str__ [stP s] S Q E := by
  refine ⟨rfl, ?_⟩
  obtain ⟨l1, l2⟩ := linesF_le o
  have b := (join_le (B := 600) (k := 8) (a := 1) (sep := "\n") l1 l2 (by decide +kernel)).2
  simp only [T_Statistic___str__, SRet, startE, N_Statistic___str__, List.map_cons, List.map_nil, List.cons_append, List.nil_append]
  refine t_join (r := .v (.lst (strL (linesF s)))) (fun K k => ?_) rfl (Nat.le_trans b (by decide)) h
  simp only [TCl, ACons, ANil, TAtt, TV, List.getElem?_cons_zero]
  refine a_plain ?_
  simp only [vals, Option.map_some, List.append_nil]
  exact s_lines o k
theorem strX_st {ρ : D.Env} {k : K1} (o : Ok s) (h : k (.str (textF s))) : strX tsp___str__ [.v (stP s)] ρ S k := by
  unfold strX
  simp only [ins_st]
  unfold spD
  simp only [ins_st]
  have key : tsp___str__.lookup (nameC s.side) = some d_Statistic___str__ := by cases s.side <;> rfl
  rw [key]
  exact s_str o ⟨rfl, _, rfl, h⟩
end
end K08
/-! K08A: lines, words and terms, read back. -/
namespace K08
open PySem PySem.Spec L2 D
open TL (tl tl_append)
theorem fr_cat {c : Nat} {a b : Str} (h1 : c ∉ tl a) (h2 : c ∉ tl b) : c ∉ tl (a ++ b) := by
  rw [tl_append, List.mem_append]
  exact fun h => h.elim h1 h2
theorem fr_join {c : Nat} {y : Str} (h0 : c ∉ tl y) : ∀ {ys : List Str}, (∀ z ∈ ys, c ∉ tl z) → c ∉ tl (Str.join y ys)
  | [], _ => by show c ∉ ([] : List Nat); simp
  | [z], h => h z (List.mem_cons_self ..)
  | z :: x :: r, h => by
    show c ∉ tl ((z ++ y) ++ Str.join y (x :: r))
    exact fr_cat (fr_cat (h z (List.mem_cons_self ..)) h0) (fr_join h0 fun w hw => h w (List.mem_cons_of_mem _ hw))
theorem kind_fr {k : Str} {c : Nat} (h : isKindS k = true) (hc : subS ⟨#[c]⟩ LET = false) : c ∉ tl k := fun m => by
  unfold isKindS at h
  simp only [Bool.and_eq_true] at h; have := List.all_eq_true.mp h.2 c m
  rw [hc] at this
  cases this
theorem known_fr {n : Nat} (h : n ≤ 6) {s : Str} (hs : s ∈ known n) : 10 ∉ tl s ∧ 32 ∉ tl s ∧ 44 ∉ tl s ∧ 45 ∉ tl s ∧ 59 ∉ tl s ∧ 1 ≤ s.length := by
  have e : ∀ n : Nat, n < 7 → ((known n).all fun s => decide (10 ∉ tl s ∧ 32 ∉ tl s ∧ 44 ∉ tl s ∧ 45 ∉ tl s ∧ 59 ∉ tl s ∧ 1 ≤ s.length)) = true := by decide +kernel
  exact of_decide_eq_true (List.all_eq_true.mp (e n (by omega)) s hs)
theorem slots_fr {s : Str} (hs : s ∈ slots) : 10 ∉ tl s ∧ 32 ∉ tl s ∧ 59 ∉ tl s := by
  have e : (slots.all fun s => decide (10 ∉ tl s ∧ 32 ∉ tl s ∧ 59 ∉ tl s)) = true := by decide +kernel
  exact of_decide_eq_true (List.all_eq_true.mp e s hs)
theorem orS_fr {c : Nat} {j : Str} (h : c ∉ tl j) (h2 : c ≠ 45) : c ∉ tl (orS j) := by
  unfold orS
  split
  · exact h
  · show c ∉ [45]
    simp [h2]
theorem terms_fr {n c : Nat} {t : List Str} (hn : n ≤ 6) (ht : t.Sublist (known n)) (hc : ∀ s ∈ known n, c ∉ tl s) (h2 : c ∉ tl (", " : Str)) : c ∉ tl (Str.join ", " t) :=
  fr_join h2 fun y hy => hc y (ht.subset hy)
theorem termLine_fr {n : Nat} {x : Str} {t : List Str} (hn : n ≤ 6) (hx : x ∈ slots) (ht : t.Sublist (known n)) : 10 ∉ tl (termLine x t) ∧ 59 ∉ tl (termLine x t) := by
  obtain ⟨a1, a2, a3⟩ := slots_fr hx
  unfold termLine
  refine ⟨fr_cat (fr_cat a1 (by decide +kernel)) (orS_fr (terms_fr hn ht (fun s hs => (known_fr hn hs).1) (by decide +kernel)) (by decide)), fr_cat (fr_cat a3 (by decide +kernel)) (orS_fr (terms_fr hn ht (fun s hs => (known_fr hn hs).2.2.2.2.1) (by decide +kernel)) (by decide))⟩
theorem zip_mem {α β γ : Type} {f : α → β → γ} {xs : List α} {ys : List β} {z : γ} (h : z ∈ List.zipWith f xs ys) : ∃ x ∈ xs, ∃ y ∈ ys, z = f x y := by
  rw [← List.map_uncurry_zip_eq_zipWith] at h
  obtain ⟨⟨x, t⟩, hxt, rfl⟩ := List.mem_map.mp h
  exact ⟨x, (List.of_mem_zip hxt).1, t, (List.of_mem_zip hxt).2, rfl⟩
theorem ruleLine_fr {n : Nat} {k : Str} {r : List (List Str)} (hn : n ≤ 6) (hk : isKindS k = true) (hr : ∀ t ∈ r, t.Sublist (known n)) : 10 ∉ tl (ruleLine k r) := by
  unfold ruleLine
  refine fr_cat (fr_cat (fr_cat (by decide +kernel) (kind_fr hk (by decide +kernel))) (by decide +kernel)) (fr_join (by decide +kernel) fun z hz => ?_)
  obtain ⟨x, hx, t, ht, rfl⟩ := zip_mem hz
  exact (termLine_fr hn hx (hr t ht)).1
theorem lines_fr {s : Stc} (o : Ok s) : ∀ y ∈ linesF s, 10 ∉ tl y := by
  intro y hy
  unfold linesF at hy
  rcases (List.mem_append.mp hy) with h | h
  · rcases (List.mem_append.mp h) with h | h
    · simp only [List.mem_cons, List.not_mem_nil, or_false] at h
      rcases h with rfl | rfl | rfl
      · cases s.side <;> decide +kernel
      · refine fr_join (by decide +kernel) fun z hz => ?_
        rcases (List.mem_cons.mp hz) with rfl | hz
        · decide +kernel
        · exact kind_fr (o.kk z hz) (by decide +kernel)
      · refine fr_join (by decide +kernel) fun z hz => ?_
        rcases (List.mem_cons.mp hz) with rfl | hz
        · decide +kernel
        · obtain ⟨x, _, rfl⟩ := List.mem_map.mp hz
          unfold startW
          split <;> decide +kernel
    · obtain ⟨k, hk, r, hr, rfl⟩ := zip_mem h
      exact ruleLine_fr o.s6 (o.kk k hk) (o.rn r hr).2
  · cases List.mem_singleton.mp h
    refine fr_join (by decide +kernel) fun z hz => ?_
    rcases (List.mem_cons.mp hz) with rfl | hz
    · decide +kernel
    · exact (slots_fr (List.mem_of_mem_take (o.es.subset hz))).1
theorem split_at {y : Str} {c : Nat} {S : List Nat} (ey : tl y = c :: S) (hk : y.cps.all (· < 256) = true) {ys : List Str} (hne : ys ≠ []) (h : ∀ z ∈ ys, c ∉ tl z) : Txt.split (Str.join y ys) y = ys := by
  rw [← TL.join_eq]
  exact TL.split_join ey hk hne h
theorem split_lines {s : Stc} (o : Ok s) : Txt.split (textF s) "\n" = linesF s := split_at (c := 10) (S := []) (by decide +kernel) (by decide +kernel) (by unfold linesF; simp) (lines_fr o)
theorem split_words {ys : List Str} (hne : ys ≠ []) (h : ∀ z ∈ ys, 32 ∉ tl z) : Txt.split (Str.join " " ys) " " = ys := split_at (c := 32) (S := []) (by decide +kernel) (by decide +kernel) hne h
theorem split_parts {n : Nat} {r : List (List Str)} (hn : n ≤ 6) (h1 : 1 ≤ r.length) (hr : ∀ t ∈ r, t.Sublist (known n)) : Txt.split (Str.join "; " (List.zipWith termLine slots r)) "; " = List.zipWith termLine slots r := by
  refine split_at (c := 59) (S := [32]) (by decide +kernel) (by decide +kernel) (fun e => ?_) fun z hz => ?_
  · have := congrArg List.length e
    rw [List.length_zipWith, show slots.length = 6 from rfl, List.length_nil] at this
    omega
  · obtain ⟨x, hx, t, ht, rfl⟩ := zip_mem hz
    exact (termLine_fr hn hx (hr t ht)).2
theorem part_term {x : Str} {t : List Str} (hx : x ∈ slots) : Txt.partition (termLine x t) " = " = (x, (" = " : Str), orS (Str.join ", " t)) :=
  TL.partition_app (s := 32) (S := [61, 32]) (by decide +kernel) (slots_fr hx).2.1
theorem join_nonempty {n : Nat} {t : List Str} (hn : n ≤ 6) (ht : t.Sublist (known n)) (hne : t ≠ []) : (Str.join ", " t).length ≠ 0 := by
  match t, ht, hne with
  | [z], ht, _ =>
    have := (known_fr hn (ht.subset (List.mem_cons_self ..))).2.2.2.2.2
    show z.length ≠ 0
    omega
  | z :: w :: r, ht, _ =>
    have := (known_fr hn (ht.subset (List.mem_cons_self ..))).2.2.2.2.2
    show ((z ++ (", " : Str)) ++ Str.join ", " (w :: r)).length ≠ 0
    rw [cat_len, cat_len]
    omega
theorem or_nil : orS (Str.join ", " []) = "-" := by decide +kernel
theorem or_terms {n : Nat} {t : List Str} (hn : n ≤ 6) (ht : t.Sublist (known n)) (hne : t ≠ []) : orS (Str.join ", " t) = Str.join ", " t ∧ Str.join ", " t ≠ "-" ∧ Txt.split (Str.join ", " t) ", " = t := by
  refine ⟨?_, fun e => ?_, split_at (c := 44) (S := [32]) (by decide +kernel) (by decide +kernel) hne fun z hz => (known_fr hn (ht.subset hz)).2.2.1⟩
  · unfold orS
    have := join_nonempty hn ht hne
    rw [if_pos]
    simp only [bne_iff_ne, ne_eq]
    omega
  · have h45 : 45 ∉ tl (Str.join ", " t) := terms_fr hn ht (fun s hs => (known_fr hn hs).2.2.2.1) (by decide +kernel)
    rw [e] at h45
    exact h45 (by decide +kernel)
theorem starts_app (p r : Str) : Txt.startswith (p ++ r) p = true := by
  have h : Builtin.Str.subAt (p ++ r) p 0 = true := by
    unfold Builtin.Str.subAt
    rw [beq_iff_eq, Str.cps_append]
    show (p.cps ++ r.cps).extract 0 (0 + p.cps.size) = p.cps
    simp
  unfold Txt.startswith
  rw [h, cat_len]
  simp
theorem rmp_app (p r : Str) : Txt.removeprefix (p ++ r) p = r := by
  have h := starts_app p r
  unfold Txt.startswith at h
  rw [StrLaws.removeprefix_eq, if_pos h]
  refine TL.ext_tl ?_
  show (List.drop p.length (tl (p ++ r))).take _ = _
  rw [tl_append, TL.len_tl p, List.drop_left, cat_len]
  exact List.take_of_length_le (by rw [← TL.len_tl, ← TL.len_tl]; omega)
end K08
/-! K08B: a statistic read from its lines. -/
namespace K08
open PySem PySem.Spec L2 D
open TL (tl tl_append)
theorem s_line_at {ls : List Str} {n : Nat} {y : Str} {S : Store} {Q : P → Store → Prop} {E : DX} (hy : ls[n]? = some y) (h : Q (.str y) S) : d_line_at [.lst (strL ls), .int n] S Q E := by
  have hl := (List.getElem?_eq_some_iff.mp hy).1
  have e : ¬ ((ls.length : Int) ≤ (n : Int)) := by omega
  refine ⟨rfl, ?_⟩
  simp [T_line_at, SSeq, SIf, SAsg, SRet, SNext, SExpr, SOwn, BOr, BAnd, BNot, BTru, B2, BCh, TAnd, TOr, TNot, TIf, TCh, TCall, TCl, ACons, ANil, vals, TV, TC, TF, T1, T2, TTup, TLst, TFz, NLst, GN, GT, GCons, GNil, truD, startE, isiD, tyN, isB, isKnown, asL0, asL, asQ, lenD, ordD, N_line_at, e, geD, ixD]
  rw [atNat (by omega) (by rw [List.length_map]; omega)]
  simp only [Int.toNat_natCast, List.getElem_map]
  rw [(List.getElem?_eq_some_iff.mp hy).2]
  exact h
theorem s_read_words {w : Str} {ks : List Str} {S : Store} {Q : P → Store → Prop} {E : DX} (hf : ∀ z ∈ w :: ks, 32 ∉ tl z) (hz : (Str.join " " (w :: ks)).length ≤ 1000) (h : Q (.tup (strL ks)) S) : d_read_words [.str (Str.join " " (w :: ks)), .str w] S Q E := by
  have sz := sizeLine_eq
  refine ⟨rfl, seq_do (asg_do ?_)⟩
  simp only [TM, TV, TC, ACons, ANil, startE, N_read_words, List.map_cons, List.map_nil, List.cons_append, List.nil_append, List.getElem?_cons_succ, List.getElem?_cons_zero, splitD]
  refine ⟨⟨_, rfl⟩, by decide +kernel, by omega, ?_⟩
  rw [split_words (by simp) hf]
  simp only [GN, List.length_cons, List.length_nil, List.replicate, List.set_cons_succ, List.set_cons_zero, List.map_cons, SRet, TIf]
  refine t2b_do ?_
  refine t2_do ?_
  simp only [TV, TC, List.getElem?_cons_succ, List.getElem?_cons_zero]
  have e0 : atI (P.str w :: strL ks) 0 = some (.str w) := by rw [atNat (by decide) (by simp)]; rfl
  simp only [ixD, asQ, asL, e0, TV, List.getElem?_cons_succ, List.getElem?_cons_zero, eqD, asD, eqOk_str, eqP_str, decide_true, truD]
  refine ⟨trivial, ?_⟩
  simp only [if_true, TCall, ACons, ANil, TSl, TV, TC, OPart, ONo, List.getElem?_cons_succ, List.getElem?_cons_zero, slD, asL]
  rw [cutLo _ (by omega)]
  simp only [tupD, asQ, asL]
  exact h
theorem s_read_kinds {ks : List Str} {S : Store} {Q : P → Store → Prop} {E : DX} (h1 : 1 ≤ ks.length) (h4 : ks.length ≤ 4) (hk : ∀ k ∈ ks, isKindS k = true) (ha : Asc ks) (h : Q (.tup (strL ks)) S) : d_read_kinds [.str (Str.join " " ("kinds" :: ks))] S Q E := by
  have i1 : (1 : Int) ≤ ks.length := by omega
  have i4 : (ks.length : Int) ≤ 4 := by omega
  refine ⟨rfl, seq_do (asg_do ?_)⟩
  simp only [TCl, TV, TC, ACons, ANil, vals, Option.map_some, List.append_nil, startE, N_read_kinds, List.map_cons, List.map_nil, List.cons_append, List.nil_append, List.getElem?_cons_succ, List.getElem?_cons_zero]
  refine s_read_words (fun z hz => ?_) ?_ ?_
  · rcases (List.mem_cons.mp hz) with rfl | hz
    · decide +kernel
    · exact kind_fr (hk z hz) (by decide +kernel)
  · have := (join_le (B := 8) (k := 5) (a := 1) (sep := " ") (ys := "kinds" :: ks) (fun y hy => by
      rcases (List.mem_cons.mp hy) with rfl | hy
      · decide +kernel
      · exact isKindS_len (hk y hy)) (by simp; omega) (by decide +kernel)).1
    omega
  · simp [SSeq, SIf, SAsg, SRet, SNext, SExpr, SOwn, BOr, BAnd, BNot, BTru, B2, BCh, TAnd, TOr, TNot, TIf, TCh, TCall, TCl, ACons, ANil, vals, TV, TC, TF, T1, T2, TTup, TLst, TFz, NLst, GN, GT, GCons, GNil, truD, startE, isiD, tyN, isB, isKnown, asL0, asL, asQ, lenD, ordD, isD, _root_.D.isNon, i1, i4, NLc, ISeq, asI]
    refine ⟨szN (by omega), ?_⟩
    refine comp_flt (fun _ => true) id _ _ (fun p hp K k => ?_) ?_
    · obtain ⟨x, hx, rfl⟩ := List.mem_map.mp hp
      simp [BTru, TCl, ACons, ANil, TV, vals]
      refine s_is_kind ?_
      rw [hk x hx]
      exact k _ rfl
    · rw [List.nil_append, List.map_id, List.filter_eq_self.mpr (fun _ _ => rfl)]
      simp only [frzO]
      refine s_first_fall (TxL.l ks) (fun x hx => hx) ha ?_
      simp [nisD, _root_.D.isNon]
      exact h
theorem start_word (x : Option Int) : eqP (.str (startW x)) (.str "0") = !x.isNone ∧ memP (.str (startW x)) [.str "0", .str "-"] = true ∧ 32 ∉ tl (startW x) ∧ (startW x).length = 1 := by
  unfold startW
  cases x.isNone <;> decide +kernel
theorem s_read_start {st : List (Option Int)} {S : Store} {Q : P → Store → Prop} {E : DX} (h1 : 1 ≤ st.length) (h6 : st.length ≤ 6) (hs : ∀ x ∈ st, x = none ∨ x = some 0) (h : Q (.tup (oiL st)) S) : d_read_start [.str (Str.join " " ("start" :: st.map startW))] S Q E := by
  have i1 : (1 : Int) ≤ st.length := by omega
  have i4 : (st.length : Int) ≤ 6 := by omega
  refine ⟨rfl, seq_do (asg_do ?_)⟩
  simp only [TCl, TV, TC, ACons, ANil, vals, Option.map_some, List.append_nil, startE, N_read_start, List.map_cons, List.map_nil, List.cons_append, List.nil_append, List.getElem?_cons_succ, List.getElem?_cons_zero]
  refine s_read_words (fun z hz => ?_) ?_ ?_
  · rcases (List.mem_cons.mp hz) with rfl | hz
    · decide +kernel
    · obtain ⟨x, _, rfl⟩ := List.mem_map.mp hz
      exact (start_word x).2.2.1
  · have := (join_le (B := 5) (k := 7) (a := 1) (sep := " ") (ys := "start" :: st.map startW) (fun y hy => by
      rcases (List.mem_cons.mp hy) with rfl | hy
      · decide +kernel
      · obtain ⟨x, _, rfl⟩ := List.mem_map.mp hy
        rw [(start_word x).2.2.2]; decide) (by simp; omega) (by decide +kernel)).1
    omega
  · simp [SSeq, SIf, SAsg, SRet, SNext, SExpr, SOwn, BOr, BAnd, BNot, BTru, B2, BCh, TAnd, TOr, TNot, TIf, TCh, TCall, TCl, ACons, ANil, vals, TV, TC, TF, T1, T2, TTup, TLst, TFz, NLst, GN, GT, GCons, GNil, truD, startE, isiD, tyN, isB, isKnown, asL0, asL, asQ, lenD, ordD, isD, _root_.D.isNon, i1, i4, NLc, ISeq, asI]
    refine ⟨szN (by omega), ?_⟩
    refine comp_map (fun _ => .bl false) _ _ (fun p hp K k => ?_) ?_
    · obtain ⟨x, hx, rfl⟩ := List.mem_map.mp hp
      simp [SSeq, SIf, SAsg, SRet, SNext, SExpr, SOwn, BOr, BAnd, BNot, BTru, B2, BCh, TAnd, TOr, TNot, TIf, TCh, TCall, TCl, ACons, ANil, vals, TV, TC, TF, T1, T2, TTup, TLst, TFz, NLst, GN, GT, GCons, GNil, truD, startE, isiD, tyN, isB, isKnown, asL0, asL, asQ, lenD, ordD, ninD, asD, (start_word x).2.1]
      refine ⟨szN (by show (2 : Nat) ≤ 10000000; decide), rfl, rfl, by show (0 : Nat) ≤ 50; decide, ?_⟩
      rw [(start_word x).2.1]
      exact k _ rfl
    · have e1 : bls (List.map (fun x => P.bl false) (List.map (P.str ∘ startW) st)) = some ((List.map (P.str ∘ startW) st).map fun _ => false) := bls_map (fun _ => P.bl false) (fun _ => false) (fun _ => rfl) _
      have e2 : ((List.map (P.str ∘ startW) st).map fun _ => false).any id = false := by simp
      simp only [List.nil_append, frzO, anyD, asL, Option.bind_some, e1, e2]
      simp [SSeq, SIf, SAsg, SRet, SNext, SExpr, SOwn, BOr, BAnd, BNot, BTru, B2, BCh, TAnd, TOr, TNot, TIf, TCh, TCall, TCl, ACons, ANil, vals, TV, TC, TF, T1, T2, TTup, TLst, TFz, NLst, GN, GT, GCons, GNil, truD, startE, isiD, tyN, isB, isKnown, asL0, asL, asQ, lenD, ordD, NLc, ISeq, asI, wipeE]
      refine ⟨szN (by omega), ?_⟩
      refine comp_map (fun p => if eqP p (.str "0") = true then .int 0 else .non) _ _ (fun p hp K k => ?_) ?_
      · obtain ⟨x, hx, rfl⟩ := List.mem_map.mp hp
        simp [SSeq, SIf, SAsg, SRet, SNext, SExpr, SOwn, BOr, BAnd, BNot, BTru, B2, BCh, TAnd, TOr, TNot, TIf, TCh, TCall, TCl, ACons, ANil, vals, TV, TC, TF, T1, T2, TTup, TLst, TFz, NLst, GN, GT, GCons, GNil, truD, startE, isiD, tyN, isB, isKnown, asL0, asL, asQ, lenD, ordD, eqD, asD]
        refine ⟨eqOk_str _ _, ?_⟩
        have kk := k
        simp only [Function.comp] at kk
        split <;> rename_i c
        · rw [if_pos c] at kk; exact kk _ rfl
        · rw [if_neg c] at kk; exact kk _ rfl
      · have e3 : (List.map (P.str ∘ startW) st).map (fun p => if eqP p (.str "0") = true then P.int 0 else .non) = oiL st := by
          unfold oiL
          rw [List.map_map]
          refine List.map_congr_left fun x hx => ?_
          show (if eqP (.str (startW x)) (.str "0") = true then P.int 0 else .non) = oiP x
          rw [(start_word x).1]
          rcases hs x hx with rfl | rfl <;> rfl
        simp only [List.nil_append, frzO, tupD, asQ, asL, e3]
        exact h
theorem s_read_terms {n : Nat} {x : Str} {t : List Str} {S : Store} {Q : P → Store → Prop} {E : DX} (hn : n ≤ 6) (hx : x ∈ slots) (ht : t.Sublist (known n)) (h : Q (tupS t) S) : d_read_terms [.str (termLine x t), .str x, .int n] S Q E := by
  refine ⟨rfl, seq_do (asg_do ?_)⟩
  simp only [TM, TV, TC, ACons, ANil, startE, N_read_terms, List.map_cons, List.map_nil, List.cons_append, List.nil_append, List.getElem?_cons_succ, List.getElem?_cons_zero, partD]
  refine ⟨⟨_, rfl⟩, by decide +kernel, ?_⟩
  rw [part_term hx]
  simp [SSeq, SIf, SAsg, SRet, SNext, SExpr, SOwn, BOr, BAnd, BNot, BTru, B2, BCh, TAnd, TOr, TNot, TIf, TCh, TCall, TCl, ACons, ANil, vals, TV, TC, TF, T1, T2, TTup, TLst, TFz, NLst, GN, GT, GCons, GNil, truD, startE, isiD, tyN, isB, isKnown, asL0, asL, asQ, lenD, ordD, neD, eqD, asD, eqOk_str, eqP_str]
  have fin : d_terms_of [P.int n] S (fun p S2 => d_first_fall [tupS t, p] S2 (fun p S2 => p = .non ∧ S2 = S) E) E := by
    refine s_terms_of hn ?_
    exact s_first_fall (TxL.l _) (fun x hx => ht.subset hx) ((known_asc _ hn).sublist ht) ⟨rfl, rfl⟩
  have sz := sizeLine_eq
  have t1 := (terms_le hn ht).1
  by_cases c : t = []
  · subst c
    rw [if_pos or_nil]
    refine s_terms_of hn ?_
    refine s_first_fall (ks := known n) (xs := []) (TxL.l _) (fun x hx => nomatch hx) List.Pairwise.nil ?_
    simp [isD, _root_.D.isNon]
    exact h
  · obtain ⟨c1, c2, c3⟩ := or_terms hn ht c
    rw [c1] at t1 ⊢
    rw [if_neg c2]
    simp only [TM, TV, TC, ACons, ANil, List.getElem?_cons_succ, List.getElem?_cons_zero, splitD]
    refine ⟨⟨_, rfl⟩, by decide +kernel, by omega, ?_⟩
    rw [c3]
    simp [tupD, asQ, asL]
    refine s_terms_of hn ?_
    refine s_first_fall (TxL.l _) (fun x hx => ht.subset hx) ((known_asc _ hn).sublist ht) ?_
    simp [isD, _root_.D.isNon]
    exact h
theorem tupsOk (r : List (List Str)) : P.isEs (r.map tupS) = true ∧ memP .non (r.map tupS) = false := by
  induction r with
  | nil => exact ⟨rfl, rfl⟩
  | cons t r ih =>
    refine ⟨?_, ?_⟩
    · show (P.isE (tupS t) && P.isEs (r.map tupS)) = true
      rw [ih.1, Bool.and_true]
      exact isEs_strL t
    · show (eqP (tupS t) .non || memP .non (r.map tupS)) = false
      rw [ih.2, Bool.or_false]
      rfl
theorem s_read_rule {n : Nat} {k : Str} {r : List (List Str)} {S : Store} {Q : P → Store → Prop} {E : DX} (hn : n ≤ 6) (h1 : 1 ≤ n) (hl : r.length = n) (hk : k.length ≤ 8) (hr : ∀ t ∈ r, t.Sublist (known n)) (h : Q (ruleP r) S) : d_read_rule [.str (ruleLine k r), .str k, .int n] S Q E := by
  have sz := sizeLine_eq
  have fj : ∀ (ρ : D.Env) (K : DQ), ρ[1]? = some (.v (.str k)) → K (.v (.str ((("on " : Str) ++ k) ++ (": " : Str)))) ρ S → TFj [TC (P.str "on "), TFmt (TV 1), TC (P.str ": ")] ρ S K := by
    intro ρ K r1 kk
    have c1 : ("on " : Str).length = 3 := rfl
    have c2 : (": " : Str).length = 2 := rfl
    simp only [TFj, fjD, TFmt, TC, TV, r1, emp_catL]
    exact ⟨by omega, by rw [cat_len, c1]; omega, by rw [cat_len, cat_len, c1, c2]; omega, kk⟩
  refine ⟨rfl, seq_do ?_⟩
  simp only [SIf, BNot, BTru, TM, TV, ACons, ANil, startE, N_read_rule, List.map_cons, List.map_nil, List.cons_append, List.nil_append, List.getElem?_cons_succ, List.getElem?_cons_zero]
  refine ⟨⟨_, rfl⟩, fj _ _ rfl ?_⟩
  have zl : (List.zipWith termLine slots r).length = n := by rw [List.length_zipWith, show slots.length = 6 from rfl, hl]; omega
  obtain ⟨b1, b2⟩ := ruleLine_le hn hk hr
  unfold ruleLine at b1 ⊢
  simp only [stsD]
  rw [starts_app]
  simp only [truD, Bool.not_true, Bool.false_eq_true, if_false, SNext]
  refine seq_do (asg_do ?_)
  simp only [TM, TV, TC, ACons, ANil, List.getElem?_cons_succ, List.getElem?_cons_zero]
  refine ⟨⟨_, rfl⟩, fj _ _ rfl ?_⟩
  simp only [rmpD]
  rw [rmp_app]
  simp only [splitD]
  refine ⟨⟨_, rfl⟩, by decide +kernel, ?_, ?_⟩
  · have := StrLaws.join_length_le "; " (List.zipWith termLine slots r)
    omega
  rw [split_parts hn (by omega) hr]
  simp only [GN, List.length_cons, List.length_nil, List.replicate, List.set_cons_succ, List.set_cons_zero]
  refine seq_do ?_
  have e : ((strL (List.zipWith termLine slots r)).length : Int) = (n : Int) := by rw [List.length_map, zl]
  simp only [SIf, B2, T2, TCall, ACons, ANil, TV, lenD, asQ, asL, List.getElem?_cons_succ, List.getElem?_cons_zero, neD, asD, truD]
  rw [e]
  refine ⟨eqOk_int _ _, ?_⟩
  rw [eqP_int, decide_eq_true rfl]
  simp only [Bool.not_true, Bool.false_eq_true, if_false, SNext]
  refine seq_do (asg_do ?_)
  simp only [TFz, NLc, IEn, ACons, ANil, TV, asI, List.getElem?_cons_succ, List.getElem?_cons_zero]
  refine ⟨szN (by simp [enumP]; omega), ?_⟩
  refine comp_g (fun pre acc S' => S' = S ∧ acc = (r.take pre.length).map tupS) (fun pre p post ee acc S1 ⟨hS, ha⟩ K k => ?_) ⟨rfl, rfl⟩ fun acc S1 ⟨hS, ha⟩ => ?_
  · subst hS ha
    obtain ⟨q, hq, rfl⟩ := enumP_get ee
    rw [List.getElem?_map] at hq
    obtain ⟨z, hz, rfl⟩ := Option.map_eq_some_iff.mp hq
    rw [List.getElem?_zipWith] at hz
    obtain ⟨x, hx, t, ht, rfl⟩ : ∃ x, slots[pre.length]? = some x ∧ ∃ t, r[pre.length]? = some t ∧ z = termLine x t := by
      cases h1 : slots[pre.length]? with
      | none => rw [h1] at hz; simp at hz
      | some x =>
        cases h2 : r[pre.length]? with
        | none => rw [h1, h2] at hz; simp at hz
        | some t => rw [h1, h2] at hz; cases hz; exact ⟨x, rfl, t, rfl, rfl⟩
    have hpl := (List.getElem?_eq_some_iff.mp hx).1
    simp only [GT, GCons, GN, GNil, wipeE, List.set_cons_succ, List.set_cons_zero]
    refine ⟨rfl, ?_⟩
    simp only [BYes, if_true, TCl, ACons, ANil]
    simp only [TV, List.getElem?_cons_succ, List.getElem?_cons_zero]
    refine t2_do ?_
    simp only [TV, TC, List.getElem?_cons_succ, List.getElem?_cons_zero, ixD, asQ]
    have e6 : atI ([.str "r0", .str "r1", .str "r2", .str "r3", .str "r4", .str "r5"] : List P) (0 + (pre.length : Int)) = some (.str x) := by
      have hs : ([.str "r0", .str "r1", .str "r2", .str "r3", .str "r4", .str "r5"] : List P) = strL slots := rfl
      rw [hs, atNat (by omega) (by rw [List.length_map]; omega)]
      simp only [Int.zero_add, Int.toNat_natCast, List.getElem_map]
      rw [(List.getElem?_eq_some_iff.mp hx).2]
    simp only [e6, vals, Option.map_some]
    refine s_read_terms hn (List.mem_of_getElem? hx) (hr t (List.mem_of_getElem? ht)) ?_
    refine k _ _ _ ⟨rfl, ?_⟩ rfl
    rw [List.length_append, List.length_singleton, List.take_succ, ht, List.map_append]
    rfl
  · subst hS ha
    have el : (enumP 0 (strL (List.zipWith termLine slots r))).length = r.length := by
      unfold enumP
      rw [List.length_mapIdx, List.length_map, zl, hl]
    rw [el, List.take_length]
    simp only [frzO, GN, wipeE, List.set_cons_succ, List.set_cons_zero, SRet, TIf]
    refine t2b_do ?_
    simp only [TC, TV, List.getElem?_cons_succ, List.getElem?_cons_zero, inD, asD, asQ, asL, (tupsOk r).1, (tupsOk r).2]
    refine ⟨rfl, trivial, by show (0 : Nat) ≤ 50; decide, ?_⟩
    simp only [Bool.false_eq_true, if_false, TCall, ACons, ANil, TV, List.getElem?_cons_succ, List.getElem?_cons_zero, tupD, asQ, asL]
    exact h
theorem s_read_result {s : Stc} {S : Store} {Q : P → Store → Prop} {E : DX} (o : Ok s) (h : Q (.tup (strL s.ends)) S) : d_read_words [.str (Str.join " " ("result" :: s.ends)), .str "result"] S Q E := by
  have s6 := o.s6
  have el : s.ends.length ≤ 6 := Nat.le_trans o.es.length_le (by rw [List.length_take, show slots.length = 6 from rfl]; omega)
  refine s_read_words (fun z hz => ?_) ?_ h
  · rcases (List.mem_cons.mp hz) with rfl | hz
    · decide +kernel
    · exact (slots_fr (List.mem_of_mem_take (o.es.subset hz))).2.1
  · have := (join_le (B := 6) (k := 7) (a := 1) (sep := " ") (ys := "result" :: s.ends) (fun y hy => by
      rcases (List.mem_cons.mp hy) with rfl | hy
      · decide +kernel
      · have := slots_two (List.mem_of_mem_take (o.es.subset hy)); omega) (by simp; omega) (by decide +kernel)).1
    omega
theorem linesF_at {s : Stc} (o : Ok s) : (linesF s)[0]? = some (sideS s.side) ∧ (linesF s)[1]? = some (Str.join " " ("kinds" :: s.kinds)) ∧ (linesF s)[2]? = some (Str.join " " ("start" :: s.start.map startW)) ∧
    (∀ (i : Nat) k r, s.kinds[i]? = some k → s.rules[i]? = some r → (linesF s)[3 + i]? = some (ruleLine k r)) ∧ (linesF s)[3 + s.kinds.length]? = some (Str.join " " ("result" :: s.ends)) ∧ (linesF s).length = 4 + s.kinds.length := by
  have zl : (List.zipWith ruleLine s.kinds s.rules).length = s.kinds.length := by rw [List.length_zipWith, o.rl, Nat.min_self]
  refine ⟨rfl, rfl, rfl, fun i k r hk hr => ?_, ?_, ?_⟩
  · have hi := (List.getElem?_eq_some_iff.mp hk).1
    unfold linesF
    rw [List.getElem?_append_left (by simp [zl]; omega), List.getElem?_append_right (by simp), List.getElem?_zipWith]
    simp [hk, hr]
  · unfold linesF
    rw [List.getElem?_append_right (by simp [zl]; omega)]
    simp only [List.length_append, zl, List.length_cons, List.length_nil]
    rw [show 3 + s.kinds.length - (0 + 1 + 1 + 1 + s.kinds.length) = 0 by omega]
    rfl
  · unfold linesF
    simp [zl]; omega
abbrev rlE (s : Stc) (v4 v5 v6 v7 v8 : Sl) : D.Env := [.v (.lst (strL (linesF s))), .v (.str (sideS s.side)), .v (.tup (strL s.kinds)), .v (.tup (oiL s.start)), v4, v5, v6, v7, v8]
theorem s_read_lines {s : Stc} {S : Store} {Q : P → Store → Prop} {E : DX} (o : Ok s) (h : Q (stP s) S) : d_read_lines [.lst (strL (linesF s))] S Q E := by
  obtain ⟨l0, l1, l2, l3, l4, ln⟩ := linesF_at o
  have k4 := o.k4
  have s6 := o.s6
  have la : ∀ {W : DXr} {ρ : D.Env} {T : DT} {n : Nat} {y : Str} {K : DQ}, (linesF s)[n]? = some y → ρ[0]? = some (.v (.lst (strL (linesF s)))) → (∀ K : DQ, K (.v (.int (n : Int))) ρ S → T ρ S K) → K (.v (.str y)) ρ S → TCl W d_line_at [] (ACons (TV 0) (ACons T (ANil))) ρ S K := by
    intro W ρ T n y K hy r0 hT k
    simp only [TCl, ACons, ANil]
    simp only [TV, r0]
    refine hT _ ?_
    simp only [vals, Option.map_some, List.append_nil]
    exact s_line_at hy k
  have tc : ∀ {c : Nat} {ρ : D.Env} (K : DQ), K (.v (.int (c : Int))) ρ S → TC (.int (c : Int)) ρ S K := fun K k => k
  refine ⟨rfl, seq_do (asg_do ?_)⟩
  show TCl _ d_line_at [] _ ([.v (.lst (strL (linesF s))), .un, .un, .un, .un, .un, .un, .un, .un] : D.Env) S _
  refine la (n := 0) l0 rfl tc ?_
  simp only [GN, List.set_cons_succ, List.set_cons_zero]
  refine seq_do ?_
  simp only [SIf, B2, T2, TV, TTup, TC, ACons, ANil, vals, Option.map_some, List.getElem?_cons_succ, List.getElem?_cons_zero, ninD, asD, asQ, truD]
  have e1 : memP (.str (sideS s.side)) [.str "greatest", .str "least"] = true := by cases s.side <;> decide +kernel
  rw [e1]
  refine ⟨szN (by show (2 : Nat) ≤ 10000000; decide), rfl, rfl, by show (0 : Nat) ≤ 50; decide, ?_⟩
  simp only [Bool.not_true, Bool.false_eq_true, if_false, SNext]
  refine seq_do (asg_do ?_)
  simp only [TCl.eq_1 _ d_read_kinds, ACons.eq_1 (TCl _ d_line_at _ _), ANil]
  refine la (n := 1) l1 rfl tc ?_
  simp only [vals, Option.map_some, List.append_nil]
  refine s_read_kinds o.k1 o.k4 o.kk o.ka ?_
  simp only [GN, List.set_cons_succ, List.set_cons_zero]
  refine seq_do (asg_do ?_)
  simp only [TCl.eq_1 _ d_read_start, ACons.eq_1 (TCl _ d_line_at _ _), ANil]
  refine la (n := 2) l2 rfl tc ?_
  simp only [vals, Option.map_some, List.append_nil]
  refine s_read_start o.s1 o.s6 o.ss ?_
  simp only [GN, List.set_cons_succ, List.set_cons_zero]
  refine seq_do ?_
  simp only [SOwn, NLst, ANil, vals]
  refine ⟨szN (by decide), seq_do ?_⟩
  simp only [SFor, IEs, A2k, ACons, ANil, TC, TV, List.set_cons_succ, List.set_cons_zero, List.getElem?_cons_succ, List.getElem?_cons_zero, asI]
  refine ⟨by decide, ?_⟩
  refine for_i (fun pre ρ S' => S' = S ∧ ∃ v5 v6 v7, ρ = rlE s (.own (.lst ((s.rules.take pre.length).map ruleP))) v5 v6 v7 .un) (fun pre p post e ρ S' ⟨hS, v5, v6, v7, hρ⟩ D' h1 h2 h3 h4 => ?_) ⟨rfl, _, _, _, rfl⟩ fun ρ S' ⟨hS, v5, v6, v7, hρ⟩ => ?_
  · subst hS hρ
    obtain ⟨q, hq, rfl⟩ := enumP_get e
    rw [List.getElem?_map] at hq
    obtain ⟨k, hk, rfl⟩ := Option.map_eq_some_iff.mp hq
    have hi : pre.length < s.rules.length := by rw [o.rl]; exact (List.getElem?_eq_some_iff.mp hk).1
    have hr : s.rules[pre.length]? = some (s.rules[pre.length]'hi) := List.getElem?_eq_getElem hi
    generalize s.rules[pre.length]'hi = r at hr
    obtain ⟨r1, r2⟩ := o.rn r (List.mem_of_getElem? hr)
    have hn : r.length = s.start.length := r1
    simp only [GT, GCons, GN, GNil, List.set_cons_succ, List.set_cons_zero]
    refine ⟨rfl, ?_⟩
    refine seq_do (asg_do ?_)
    simp only [TCl.eq_1 _ d_read_rule, ACons.eq_1 (TCl _ d_line_at _ _)]
    refine la (n := 3 + pre.length) (l3 _ _ _ hk hr) rfl (fun K kk => tv_do (p := .int (3 + (pre.length : Int))) rfl K ?_) ?_
    · rw [show (((3 + pre.length : Nat) : Nat) : Int) = 3 + (pre.length : Int) by omega] at kk
      exact kk
    simp only [ACons, ANil, TCall, TV, lenD, asQ, asL, List.length_map, vals, Option.map_some, List.append_nil, List.getElem?_cons_succ, List.getElem?_cons_zero]
    refine s_read_rule o.s6 o.s1 hn (isKindS_len (o.kk k (List.mem_of_getElem? hk))) r2 ?_
    simp only [GN, List.set_cons_succ, List.set_cons_zero]
    refine seq_do ?_
    simp only [SIf, B2, T2, TV, TC, List.getElem?_cons_succ, List.getElem?_cons_zero, isD, _root_.D.isNon, truD]
    simp only [Bool.false_eq_true, if_false, SNext, SExpr, TM, ACons, ANil, TF]
    simp only [TV, List.getElem?_cons_succ, List.getElem?_cons_zero]
    refine ⟨rfl, ?_⟩
    simp only [appD, wrL, List.getElem?_cons_succ, List.getElem?_cons_zero]
    have rl := o.rl
    refine ⟨by rw [sizeLine_eq, List.length_map, List.length_take]; omega, ?_⟩
    refine h1 _ _ ⟨rfl, .v (.int (3 + (pre.length : Int))), .v (.str k), .v (ruleP r), ?_⟩
    simp only [List.set_cons_succ, List.set_cons_zero, rlE]
    rw [List.length_append, List.length_singleton, List.take_succ, hr, List.map_append]
    rfl
  · subst hS hρ
    have el : (enumP 3 (strL s.kinds)).length = s.rules.length := by
      unfold enumP
      rw [List.length_mapIdx, List.length_map, o.rl]
    rw [el, List.take_length]
    dsimp only
    refine seq_do (asg_do (t2_do ?_))
    simp only [TC, TCall, ACons, ANil, TV, lenD, asQ, asL, List.length_map, addD, List.getElem?_cons_succ, List.getElem?_cons_zero, GN, List.set_cons_succ, List.set_cons_zero]
    refine seq_do (asg_do ?_)
    simp only [TCl.eq_1 _ d_read_words, ACons.eq_1 (TCl _ d_line_at _ _)]
    refine la (n := 3 + s.kinds.length) l4 rfl (fun K kk => tv_do (p := .int (3 + (s.kinds.length : Int))) rfl K ?_) ?_
    · rw [show (((3 + s.kinds.length : Nat) : Nat) : Int) = 3 + (s.kinds.length : Int) by omega] at kk
      exact kk
    simp only [ACons, ANil, TC, vals, Option.map_some, List.append_nil]
    refine s_read_result o ?_
    simp only [GN, List.set_cons_succ, List.set_cons_zero]
    refine seq_do ?_
    have e1 : eqOk (.tup (strL s.ends)) (.tup []) = true := by
      have : P.isE (.tup (strL s.ends)) = true := isEs_strL s.ends
      unfold eqOk
      rw [this]
      have d0 : P.dep (.tup []) = 1 := rfl
      rw [d0]
      simp
      refine ⟨rfl, ?_⟩
      omega
    have e2 : eqP (.tup (strL s.ends)) (.tup []) = false := by
      have := o.el
      cases hx : s.ends with
      | nil => exact (this hx).elim
      | cons x xs => simp [eqP, P.dat, PyData.eqv, P.dats, PyData.eqvAll]
    simp [SSeq, SIf, SAsg, SRet, SNext, SExpr, SOwn, BOr, BAnd, BNot, BTru, B2, BCh, TAnd, TOr, TNot, TIf, TCh, TCall, TCl, ACons, ANil, vals, TV, TC, TF, T1, T2, TTup, TLst, TFz, NLst, GN, GT, GCons, GNil, truD, startE, isiD, tyN, isB, isKnown, asL0, asL, asQ, lenD, ordD, isD, _root_.D.isNon, eqD, asD, e1, e2, TSl, ONo, OPart, slD, cut_slots]
    refine s_first_fall (ks := slots.take s.start.length) (by rw [← List.map_take]; exact TxL.t _) (fun x hx => o.es.subset hx) ((slots_asc _).sublist o.es) ?_
    have c5 : ¬ (3 + (s.kinds.length : Int) + 1 < ((linesF s).length : Int)) := by omega
    simp [SSeq, SIf, SAsg, SRet, SNext, SExpr, SOwn, BOr, BAnd, BNot, BTru, B2, BCh, TAnd, TOr, TNot, TIf, TCh, TCall, TCl, ACons, ANil, vals, TV, TC, TF, T1, T2, TTup, TLst, TFz, NLst, GN, GT, GCons, GNil, truD, startE, isiD, tyN, isB, isKnown, asL0, asL, asQ, lenD, ordD, nisD, _root_.D.isNon, gtD, addD, c5, tupD]
    exact s_made o h
theorem textF_len {s : Stc} (o : Ok s) : (textF s).length ≤ 4808 := by
  obtain ⟨a, b⟩ := linesF_le o
  have := (join_le (B := 600) (k := 8) (a := 1) (sep := "\n") a b (by decide +kernel)).1
  unfold textF
  omega
theorem s_read {s : Stc} {S : Store} {Q : P → Store → Prop} {E : DX} (o : Ok s) (h : Q (stP s) S) : d_Statistic_read [.str (textF s)] S Q E := by
  have tl := textF_len o
  have sz := sizeLine_eq
  refine ⟨rfl, ?_⟩
  simp [T_Statistic_read, SSeq, SIf, SAsg, SRet, SNext, SExpr, SOwn, BOr, BAnd, BNot, BTru, B2, BCh, TAnd, TOr, TNot, TIf, TCh, TCall, TCl, ACons, ANil, vals, TV, TC, TF, T1, T2, TTup, TLst, TFz, NLst, GN, GT, GCons, GNil, truD, startE, isiD, tyN, isB, isKnown, asL0, asL, asQ, lenD, ordD, N_Statistic_read, TM, splitD]
  refine ⟨⟨_, rfl⟩, by decide +kernel, by omega, ?_⟩
  rw [split_lines o]
  exact s_read_lines o h
/-- C.read(text), C.read(text=text) -/
theorem t_read {s : Stc} {c : Str} {i : Nat} {W : DXr} {ρ : D.Env} {S : Store} {Q : DQ} (o : Ok s) (hc : c = "Statistic" ∨ c = "Greatest" ∨ c = "Least") (hi : ρ[i]? = some (.v (.str (textF s)))) (h : Q (.v (stP s)) ρ S) :
    TSm tsm_read_1 1 0 W (TC (P.cl c)) (A2p (ACons (TV i) (ANil))) ρ S Q ∧ TSm tsm_read_0_text 0 1 W (TC (P.cl c)) (A2k ANil (ACons (TV i) (ANil))) ρ S Q := by
  have l1 : tsm_read_1.lookup c = some (d_Statistic_read, [.p 0], []) := by rcases hc with rfl | rfl | rfl <;> rfl
  have l2 : tsm_read_0_text.lookup c = some (d_Statistic_read, [.k 0], []) := by rcases hc with rfl | rfl | rfl <;> rfl
  refine ⟨?_, ?_⟩
  · simp only [TSm, TC, l1, A2p, ACons, ANil, TV, hi, vals, Option.map_some]
    exact ⟨rfl, rfl, s_read o h⟩
  · simp only [TSm, TC, l2, A2k, ACons, ANil, TV, hi, vals, Option.map_some]
    exact ⟨rfl, rfl, s_read o h⟩
end K08
/-! K08C: the text that the law writes is the text of the statistic. -/
namespace K08
open PySem PySem.Spec L2 D
open TL (tl tl_append)
theorem join_cons {y w : Str} : ∀ {ys : List Str}, ys ≠ [] → Str.join y (w :: ys) = (w ++ y) ++ Str.join y ys
  | [], h => (h rfl).elim
  | _ :: _, _ => rfl
theorem cat_assoc (a b c : Str) : (a ++ b) ++ c = a ++ (b ++ c) := TL.ext_tl (by rw [tl_append, tl_append, tl_append, tl_append, List.append_assoc])
theorem join_snoc {y z : Str} : ∀ {ys : List Str}, ys ≠ [] → Str.join y (ys ++ [z]) = Str.join y ys ++ (y ++ z)
  | [], h => (h rfl).elim
  | [a], _ => by
    show (a ++ y) ++ z = a ++ (y ++ z)
    exact cat_assoc _ _ _
  | a :: b :: r, _ => by
    have ih := join_snoc (y := y) (z := z) (ys := b :: r) (by simp)
    show (a ++ y) ++ Str.join y ((b :: r) ++ [z]) = ((a ++ y) ++ Str.join y (b :: r)) ++ (y ++ z)
    rw [ih, cat_assoc (a ++ y)]
def LTA (W : DXr) : DS := SAsg (T2 addD (T2 ixD (TV 6) (TC (P.int 2))) (TIf (B2 isD (TV 7) (TC P.non)) (TC (P.str " -")) (TC (P.str " 0")))) (GS (TV 6) (TC (P.int 2)))
def LTB (W : DXr) : DS := SSeq (SAsg (TIf (B2 neD (T2 ixD (T2 ixD (TV 4) (TV 8)) (TV 10)) (TTup (ANil))) (TM tyS joinD (TC (P.str ", ")) (ACons (T2 ixD (T2 ixD (TV 4) (TV 8)) (TV 10)) (ANil))) (TC (P.str "-"))) (GN 11)) (SExpr (TM tyL appD (TV 9) (ACons (T2 addD (T2 addD (T2 addD (TC (P.str "r")) (TCall strD (ACons (TV 10) (ANil)))) (TC (P.str " = "))) (TV 11)) (ANil))))
def LTC (W : DXr) : DS := SSeq (SOwn 9 (NLst (ANil))) (SSeq (SFor (IR1 (ACons (TCall lenD (ACons (TV 3) (ANil))) (ANil))) (GN 10) (LTB W)) (SExpr (TM tyL appD (TV 6) (ACons (T2 addD (T2 addD (T2 addD (TC (P.str "on ")) (T2 ixD (TV 2) (TV 8))) (TC (P.str ": "))) (TM tyS joinD (TC (P.str "; ")) (ACons (TV 9) (ANil)))) (ANil)))))
abbrev ltE (s : Stc) (v6 v7 v8 v9 v10 v11 : Sl) : D.Env := [.v (plP s), .v (.str (sideS s.side)), .v (.tup (strL s.kinds)), .v (.tup (oiL s.start)), .v (.tup (s.rules.map ruleP)), .v (.tup (strL s.ends)), v6, v7, v8, v9, v10, v11]
theorem tv_own {i : Nat} {xs : List P} {ρ : D.Env} {S : Store} (h : ρ[i]? = some (.own (.lst xs))) (K : DQ) (k : K (.loc i) ρ S) : TV i ρ S K := by
  simp only [TV, h]
  exact k
theorem eq_nilS (t : List Str) : eqOk (tupS t) (.tup []) = true ∧ eqP (tupS t) (.tup []) = t.isEmpty := by
  refine ⟨?_, ?_⟩
  · have : P.isE (tupS t) = true := isEs_strL t
    unfold eqOk
    rw [this]
    have d0 : P.dep (.tup []) = 1 := rfl
    rw [d0]
    simp
    refine ⟨rfl, ?_⟩
    omega
  · cases t with
    | nil => simp [eqP, P.dat, PyData.eqv, P.dats, PyData.eqvAll]
    | cons x xs => simp [eqP, P.dat, PyData.eqv, P.dats, PyData.eqvAll]
section
variable {s : Stc} {S : Store} {Dn : DEnds} {v6 v7 v8 v9 v10 v11 : Sl} {W : DXr}
theorem lt_start {a b : Str} (o : Ok s) (h : ∀ v7, Dn.nx (ltE s (.own (.lst (strL [a, b, Str.join " " ("start" :: s.start.map startW)]))) v7 v8 v9 v10 v11) S) :
    SFor (ISeq (TV 3)) (GN 7) (LTA W) Dn (ltE s (.own (.lst (strL [a, b, "start"]))) v7 v8 v9 v10 v11) S := by
  have s6 := o.s6
  simp only [SFor, ISeq, TV, List.getElem?_cons_succ, List.getElem?_cons_zero, asI]
  refine for_i (fun pre ρ S' => S' = S ∧ ∃ v7, ρ = ltE s (.own (.lst (strL [a, b, Str.join " " ("start" :: (s.start.take pre.length).map startW)]))) v7 v8 v9 v10 v11) (fun pre p post e ρ S' ⟨hS, v7, hρ⟩ D' h1 h2 h3 h4 => ?_) ⟨rfl, _, rfl⟩ fun ρ S' ⟨hS, v7, hρ⟩ => ?_
  · subst hS hρ
    have hp : (oiL s.start)[pre.length]? = some p := by rw [e]; simp
    rw [List.getElem?_map] at hp
    obtain ⟨x, hx, rfl⟩ := Option.map_eq_some_iff.mp hp
    have hpl := (List.getElem?_eq_some_iff.mp hx).1
    simp only [GN, List.set_cons_succ, List.set_cons_zero, LTA]
    refine asg_do (t2_do (t2_do ?_))
    have bl := (join_le (B := 5) (k := 7) (a := 1) (sep := " ") (ys := "start" :: (s.start.take pre.length).map startW) (fun y hy => by
      rcases (List.mem_cons.mp hy) with rfl | hy
      · decide +kernel
      · obtain ⟨x, _, rfl⟩ := List.mem_map.mp hy
        rw [(start_word x).2.2.2]; decide) (by simp; omega) (by decide +kernel)).1
    have nx : ∀ w : Str, w = " " ++ startW x → (Str.join " " ("start" :: (s.start.take pre.length).map startW)).length + w.length ≤ sizeLine ∧ Str.join " " ("start" :: (s.start.take pre.length).map startW) ++ w = Str.join " " ("start" :: (s.start.take (pre.length + 1)).map startW) := by
      rintro w rfl
      have c1 : (" " : Str).length = 1 := rfl
      refine ⟨szN (by rw [cat_len, (start_word x).2.2.2, c1]; omega), ?_⟩
      rw [List.take_succ, hx]
      show _ = Str.join " " ("start" :: (s.start.take pre.length ++ [x]).map startW)
      rw [List.map_append]
      exact (join_snoc (ys := "start" :: (s.start.take pre.length).map startW) (by simp)).symm
    simp only [TV, TC, List.getElem?_cons_succ, List.getElem?_cons_zero]
    have fin : ∀ w : Str, w = " " ++ startW x → addD (.v (.str (Str.join " " ("start" :: (s.start.take pre.length).map startW)))) (.v (.str w)) (ltE s (.own (.lst (strL [a, b, Str.join " " ("start" :: (s.start.take pre.length).map startW)]))) (.v (oiP x)) v8 v9 v10 v11) S' fun z => GS (TV 6) (TC (P.int 2)) z (ltE s (.own (.lst (strL [a, b, Str.join " " ("start" :: (s.start.take pre.length).map startW)]))) (.v (oiP x)) v8 v9 v10 v11) S' D'.nx := by
      intro w hw
      obtain ⟨n1, n2⟩ := nx w hw
      refine ⟨n1, ?_⟩
      rw [n2]
      show D'.nx _ S'
      refine h1 _ _ ⟨rfl, .v (oiP x), ?_⟩
      rw [List.length_append, List.length_singleton]; rfl
    show TIf (B2 isD (TV 7) (TC P.non)) (TC (P.str " -")) (TC (P.str " 0")) _ S' _
    simp only [TIf]
    refine t2b_do ?_
    simp only [TV, TC, List.getElem?_cons_succ, List.getElem?_cons_zero, isD]
    cases x with
    | none => exact fin _ (by decide +kernel)
    | some i => exact fin _ (by show (" 0" : Str) = (" " : Str) ++ ("0" : Str); decide +kernel)
  · subst hS hρ
    rw [show s.start.take (oiL s.start).length = s.start by rw [List.length_map, List.take_length]]
    exact h _
theorem lt_inner {k : Nat} {r : List (List Str)} (o : Ok s) (hr : s.rules[k]? = some r) (h : ∀ v10 v11, Dn.nx (ltE s v6 v7 (.v (.int k)) (.own (.lst (strL (List.zipWith termLine slots r)))) v10 v11) S) :
    SFor (IR1 (ACons (TCall lenD (ACons (TV 3) (ANil))) (ANil))) (GN 10) (LTB W) Dn (ltE s v6 v7 (.v (.int k)) (.own (.lst [])) v10 v11) S := by
  have s6 := o.s6
  obtain ⟨r1, r2⟩ := o.rn r (List.mem_of_getElem? hr)
  have hk := (List.getElem?_eq_some_iff.mp hr).1
  have zl : (List.zipWith termLine slots r).length = s.start.length := by rw [List.length_zipWith, show slots.length = 6 from rfl, r1]; omega
  simp only [SFor, IR1, TCall, ACons, ANil, TV, lenD, asQ, asL, List.length_map, List.getElem?_cons_succ, List.getElem?_cons_zero]
  refine ⟨⟨by omega, by omega⟩, ?_⟩
  refine for_i (fun pre ρ S' => S' = S ∧ ∃ v10 v11, ρ = ltE s v6 v7 (.v (.int k)) (.own (.lst (strL ((List.zipWith termLine slots r).take pre.length)))) v10 v11) (fun pre p post ee ρ S' ⟨hS, v10, v11, hρ⟩ D' h1 h2 h3 h4 => ?_) ⟨rfl, _, _, rfl⟩ fun ρ S' ⟨hS, v10, v11, hρ⟩ => ?_
  · subst hS hρ
    have hp : (rangeP 0 ((s.start.length : Int)).toNat)[pre.length]? = some p := by rw [ee]; simp
    have hl : pre.length < s.start.length := by
      have := (List.getElem?_eq_some_iff.mp hp).1
      rw [rangeP_len] at this
      omega
    have hp2 : p = .int (pre.length : Int) := by
      have e2 := rangeP_get (lo := 0) (n := ((s.start.length : Int)).toNat) (i := pre.length) (by omega)
      rw [hp] at e2
      simpa using e2
    subst hp2
    have ht : r[pre.length]? = some (r[pre.length]'(by omega)) := List.getElem?_eq_getElem (by omega)
    generalize r[pre.length]'(by omega) = t at ht
    have tm := r2 t (List.mem_of_getElem? ht)
    obtain ⟨q1, q2, q3⟩ := slot_lt pre.length (by omega)
    have hx : slotN pre.length ∈ slots := List.mem_of_getElem? q2
    have tl1 := terms_le s6 tm
    simp only [GN, List.set_cons_succ, List.set_cons_zero, LTB]
    have src : ∀ {ρ : D.Env} (K : DQ), ρ[4]? = some (.v (.tup (s.rules.map ruleP))) → ρ[8]? = some (.v (.int k)) → ρ[10]? = some (.v (.int (pre.length : Int))) → K (.v (tupS t)) ρ S' → T2 ixD (T2 ixD (TV 4) (TV 8)) (TV 10) ρ S' K := by
      intro ρ K r4 r8 r10 kk
      refine t2_do (t2_do ?_)
      simp only [TV, r4, r8, ixD, asQ, asL]
      rw [atNat (by omega) (by simp; omega)]
      simp only [r10, Int.toNat_natCast, List.getElem_map, (List.getElem?_eq_some_iff.mp hr).2]
      rw [atNat (by omega) (by simp; omega)]
      simp only [Int.toNat_natCast, List.getElem_map, (List.getElem?_eq_some_iff.mp ht).2]
      exact kk
    refine seq_do (asg_do ?_)
    simp only [TIf]
    refine t2b_do (src _ rfl rfl rfl ?_)
    obtain ⟨n1, n2⟩ := eq_nilS t
    simp only [TTup, ANil, vals, neD, asD, n1, n2]
    refine ⟨szN (by decide), trivial, ?_⟩
    have fin : ∀ {ρ : D.Env}, ρ = ltE s v6 v7 (.v (.int k)) (.own (.lst (strL ((List.zipWith termLine slots r).take pre.length)))) (.v (.int (pre.length : Int))) (.v (.str (orS (Str.join ", " t)))) → SExpr (TM tyL appD (TV 9) (ACons (T2 addD (T2 addD (T2 addD (TC (P.str "r")) (TCall strD (ACons (TV 10) (ANil)))) (TC (P.str " = "))) (TV 11)) (ANil))) D' ρ S' := by
      rintro ρ rfl
      simp only [SExpr, TM, ACons, ANil]
      simp only [TV, List.getElem?_cons_succ, List.getElem?_cons_zero]
      refine ⟨rfl, t2_do (t2_do (t_slot (k := pre.length) (by omega) rfl ?_))⟩
      have c1 : (" = " : Str).length = 3 := rfl
      simp only [TC, TV, addD, List.getElem?_cons_succ, List.getElem?_cons_zero]
      refine ⟨szN (by rw [slot_len, c1]; decide), szN (by rw [cat_len, slot_len, c1]; omega), ?_⟩
      simp only [appD, wrL, List.getElem?_cons_succ, List.getElem?_cons_zero, List.set_cons_succ, List.set_cons_zero]
      refine ⟨by rw [sizeLine_eq, List.length_map, List.length_take]; omega, ?_⟩
      refine h1 _ _ ⟨rfl, .v (.int (pre.length : Int)), .v (.str (orS (Str.join ", " t))), ?_⟩
      rw [List.length_append, List.length_singleton, zipWith_next q2 ht, strL_app]
      rfl
    cases c : t.isEmpty with
    | true =>
      have ht0 : t = [] := List.isEmpty_iff.mp c
      simp only [Bool.not_true, Bool.false_eq_true, if_false, TC]
      refine fin ?_
      rw [ht0, or_nil]
      rfl
    | false =>
      have ht0 : t ≠ [] := fun e => by rw [e] at c; cases c
      simp only [Bool.not_false, if_true]; refine t_join (r := .v (tupS t)) (ys := t) (fun K kk => src K rfl rfl rfl kk) rfl (Nat.le_trans tl1.2 (by decide)) ?_
      refine fin ?_
      rw [(or_terms s6 tm ht0).1]
      rfl
  · subst hS hρ
    rw [rangeP_len, ← zl, List.take_length]
    exact h _ _
theorem s_ltext {Q : P → Store → Prop} {E : DX} (o : Ok s) (h : Q (.str (textF s)) S) : d__law_text [plP s] S Q E := by
  have k4 := o.k4
  have k1 := o.k1
  have s6 := o.s6
  have rl := o.rl
  have zl : (List.zipWith ruleLine s.kinds s.rules).length = s.kinds.length := by rw [List.length_zipWith, rl, Nat.min_self]
  have hk0 : s.kinds ≠ [] := fun e => by rw [e] at k1; simp at k1
  have es : s.ends.length ≤ 6 := Nat.le_trans o.es.length_le (by rw [List.length_take]; have : slots.length = 6 := rfl; omega)
  refine ⟨rfl, ?_⟩
  refine seq_do (asg_do ?_)
  simp only [TV, startE, N__law_text, List.map_cons, List.map_nil, List.cons_append, List.nil_append, List.length_cons, List.length_nil, List.replicate, List.getElem?_cons_zero]
  simp only [GT, GCons, GN, GNil, plP, List.set_cons_succ, List.set_cons_zero]
  refine ⟨rfl, ?_⟩
  refine seq_do ?_
  have bk := join_le (B := 8) (k := 4) (a := 1) (sep := " ") (ys := s.kinds) (fun y hy => isKindS_len (o.kk y hy)) k4 (by decide +kernel)
  have be := join_le (B := 2) (k := 6) (a := 1) (sep := " ") (ys := s.ends) (fun y hy => slots_two (List.mem_of_mem_take (o.es.subset hy))) es (by decide +kernel)
  simp only [SOwn, NLst]
  refine acons_do (tv_do rfl _ (acons_do (t2_do ?_)))
  simp only [TC]
  refine t_join (r := .v (.tup (strL s.kinds))) (ys := s.kinds) (tv_do rfl) rfl (Nat.le_trans bk.2 (by decide)) ?_
  have c6 : ("kinds " : Str).length = 6 := rfl
  simp only [addD, ACons, ANil]
  refine ⟨szN (by rw [c6]; omega), ?_⟩
  have ek : ("kinds " : Str) ++ Str.join " " s.kinds = Str.join " " ("kinds" :: s.kinds) := by
    rw [join_cons hk0]
    rfl
  rw [ek]
  simp only [vals, Option.map_some]
  refine ⟨szN (by show (3 : Nat) ≤ 10000000; decide), ?_⟩
  simp only [List.set_cons_succ, List.set_cons_zero]
  refine seq_do (lt_start (W := fun c fs x S' => E c fs S') o fun v7 => ?_)
  dsimp only
  refine seq_do ?_
  simp only [SFor, IR1, TCall, ACons, ANil, TV, lenD, asQ, asL, List.length_map, List.getElem?_cons_succ, List.getElem?_cons_zero]
  refine ⟨⟨by omega, by omega⟩, ?_⟩
  refine for_i (fun pre ρ S' => S' = S ∧ ∃ v8 v9 v10 v11, ρ = ltE s (.own (.lst (strL ([sideS s.side, Str.join " " ("kinds" :: s.kinds), Str.join " " ("start" :: s.start.map startW)] ++ (List.zipWith ruleLine s.kinds s.rules).take pre.length)))) v7 v8 v9 v10 v11)
    (fun pre p post ee ρ S' ⟨hS, v8, v9, v10, v11, hρ⟩ D' h1 h2 h3 h4 => ?_) ⟨rfl, _, _, _, _, rfl⟩ fun ρ S' ⟨hS, v8, v9, v10, v11, hρ⟩ => ?_
  · subst hS hρ
    have hp : (rangeP 0 ((s.kinds.length : Int)).toNat)[pre.length]? = some p := by rw [ee]; simp
    have hl : pre.length < s.kinds.length := by
      have := (List.getElem?_eq_some_iff.mp hp).1
      rw [rangeP_len] at this
      omega
    have hp2 : p = .int (pre.length : Int) := by
      have e2 := rangeP_get (lo := 0) (n := ((s.kinds.length : Int)).toNat) (i := pre.length) (by omega)
      rw [hp] at e2
      simpa using e2
    subst hp2
    have hk : s.kinds[pre.length]? = some (s.kinds[pre.length]'hl) := List.getElem?_eq_getElem hl
    generalize s.kinds[pre.length]'hl = k at hk
    have hr : s.rules[pre.length]? = some (s.rules[pre.length]'(by omega)) := List.getElem?_eq_getElem (by omega)
    generalize s.rules[pre.length]'(by omega) = r at hr
    have km := o.kk k (List.mem_of_getElem? hk)
    have rm := o.rn r (List.mem_of_getElem? hr)
    obtain ⟨b1, b2⟩ := ruleLine_le s6 (isKindS_len km) rm.2
    show LTC (fun c fs x S' => E c fs S') _ _ _
    simp only [GN, List.set_cons_succ, List.set_cons_zero, LTC]
    refine seq_do ?_
    simp only [SOwn, NLst, ANil, vals]
    refine ⟨szN (Nat.zero_le _), ?_⟩
    simp only [List.set_cons_succ, List.set_cons_zero]
    refine seq_do (lt_inner o hr fun v10 v11 => ?_)
    simp only [SExpr, TM, ACons, ANil]
    simp only [TV, List.getElem?_cons_succ, List.getElem?_cons_zero]
    refine ⟨rfl, t2_do (t2_do (t2_do ?_))⟩
    have c1 : ("on " : Str).length = 3 := rfl
    have c2 : (": " : Str).length = 2 := rfl
    have kl := isKindS_len km
    unfold ruleLine at b1
    rw [cat_len, cat_len, cat_len, c1, c2] at b1
    simp only [TC]
    refine t2_do ?_
    simp only [TV, ixD, asQ, asL, List.getElem?_cons_succ, List.getElem?_cons_zero]
    rw [atNat (by omega) (by simp; omega)]
    simp only [Int.toNat_natCast, List.getElem_map, (List.getElem?_eq_some_iff.mp hk).2]
    simp only [addD]
    refine ⟨szN (by rw [c1]; omega), szN (by rw [cat_len, c1, c2]; omega), ?_⟩
    show TM tyS joinD (TC (P.str "; ")) (ACons (TV 9) (ANil)) _ _ _
    refine t_join (r := .loc 9) (ys := List.zipWith termLine slots r) (fun K k => k) rfl (Nat.le_trans b2 (by decide)) ?_
    simp only
    refine ⟨szN (by rw [cat_len, cat_len, c1, c2]; omega), ?_⟩
    have hl : (strL ([sideS s.side, Str.join " " ("kinds" :: s.kinds), Str.join " " ("start" :: s.start.map startW)] ++ (List.zipWith ruleLine s.kinds s.rules).take pre.length)).length < sizeLine := by
      rw [sizeLine_eq, List.length_map, List.length_append, List.length_take, List.length_zipWith]
      simp only [List.length_nil, List.length_cons]
      omega
    simp only [appD, wrL, List.getElem?_cons_succ, List.getElem?_cons_zero]
    refine ⟨hl, ?_⟩
    refine h1 _ _ ⟨rfl, .v (.int (pre.length : Int)), .own (.lst (strL (List.zipWith termLine slots r))), v10, v11, ?_⟩
    simp only [List.set_cons_succ, List.set_cons_zero, List.length_append, List.length_singleton]
    have e3 := congrArg strL (congrArg ([sideS s.side, Str.join " " ("kinds" :: s.kinds), Str.join " " ("start" :: s.start.map startW)] ++ ·) (zipWith_next (f := ruleLine) hk hr))
    simp only [← List.append_assoc] at e3
    rw [strL_app (_ ++ _) [_]] at e3
    rw [e3]
    rfl
  · subst hS hρ
    rw [rangeP_len, ← zl, List.take_length]
    dsimp only
    obtain ⟨la, lb⟩ := linesF_le o
    have jl := join_le (B := 600) (k := 8) (a := 1) (sep := "\n") la lb (by decide +kernel)
    have ee : ("result " : Str) ++ Str.join " " s.ends = Str.join " " ("result" :: s.ends) := by
      rw [join_cons o.el]
      rfl
    have c7 : ("result " : Str).length = 7 := rfl
    simp only [SRet]
    refine t_join (r := .v (.lst (strL (linesF s)))) (ys := linesF s) (fun K kk => t2_do (tv_own rfl _ ?_)) rfl (Nat.le_trans jl.2 (by decide)) h
    simp only [TLst, ACons, ANil]
    refine t2_do ?_
    simp only [TC]
    refine t_join (r := .v (.tup (strL s.ends))) (ys := s.ends) (tv_do rfl) rfl (Nat.le_trans be.2 (by decide)) ?_
    simp only [addD]
    refine ⟨szN (by rw [c7]; omega), ?_⟩
    rw [ee]
    simp only [vals, Option.map_some]
    have e2 : strL ([sideS s.side, Str.join " " ("kinds" :: s.kinds), Str.join " " ("start" :: s.start.map startW)] ++ List.zipWith ruleLine s.kinds s.rules) ++ [P.str (Str.join " " ("result" :: s.ends))] = strL (linesF s) := by
      unfold linesF
      rw [strL_app (_ ++ _) [_]]
      rfl
    refine ⟨szN (by show (1 : Nat) ≤ 10000000; decide), _, _, rfl, rfl, ?_, by rw [e2]; exact kk⟩
    refine szN ?_
    have := (linesF_at o).2.2.2.2.2
    rw [List.length_map, List.length_append, zl]
    simp only [List.length_nil, List.length_cons]
    omega
end
end K08
/-! PQ: how large results are; comparisons with the own class's words. -/
namespace K08
open PySem PySem.Spec L2 D
/-! ### how large contents are -/
def bndR (B : Int) (row : Row) : Prop := ∀ z, some z ∈ row → -B ≤ z ∧ z ≤ B
theorem lookup_in {α : Type} : ∀ {xs : List (Str × α)} {k : Str} {v : α}, xs.lookup k = some v → (k, v) ∈ xs
  | (a, b) :: xs, k, v, h => by
    rw [List.lookup_cons] at h
    by_cases c : k = a
    · subst c; simp at h; subst h; exact List.mem_cons_self ..
    · have c' : (k == a) = false := by simpa using c
      rw [c'] at h
      exact List.mem_cons_of_mem _ (lookup_in h)
theorem best_in {g : Bool} {xs : List Int} {m : Int} (h : bestI g xs = some m) : m ∈ xs ∧ ∀ y ∈ xs, if g = true then y ≤ m else m ≤ y := by
  cases xs with
  | nil => cases h
  | cons x xs =>
    have e : xs.foldl (fun a b => if g = true then max a b else min a b) x = m := Option.some.inj h
    have := fold_spec g xs x
    simp only [e] at this
    exact this
theorem hval_bnd {B : Int} {row : Row} (h : bndR B row) (b0 : 0 ≤ B) {t : Str} {z : Int} (e : hval row t = some z) : -B ≤ z ∧ z ≤ B := by
  unfold hval at e
  split at e
  · rename_i x hx
    subst e
    have m := lookup_in hx
    unfold heldOf at m
    rcases (List.mem_cons.mp m) with m | m
    · cases m; omega
    · exact h z (List.of_mem_zip m).2
  · cases e
theorem term_bnd {B w : Int} {row : Row} (h : bndR B row) (b0 : 0 ≤ B) (w0 : 0 ≤ w) {a : Int} (ha : -w ≤ a ∧ a ≤ w) {t : Str} {z : Int} (e : termVal row a t = some z) : -(B + w) ≤ z ∧ z ≤ B + w := by
  unfold termVal at e
  obtain ⟨c, hc, rfl⟩ := Option.map_eq_some_iff.mp e
  have := hval_bnd h b0 hc
  split <;> omega
theorem step_bnd {B w : Int} {row : Row} (h : bndR B row) (b0 : 0 ≤ B) (w0 : 0 ≤ w) {a : Int} (ha : -w ≤ a ∧ a ≤ w) (g : Bool) (rule : List (List Str)) : bndR (B + w) (stepF g rule row a) := by
  intro z hz
  unfold stepF at hz
  obtain ⟨t, _, ht⟩ := List.mem_map.mp hz
  obtain ⟨h1, _⟩ := best_in ht
  obtain ⟨u, _, hu⟩ := List.mem_filterMap.mp h1
  exact term_bnd h b0 w0 ha hu
theorem run_bnd {s : Stc} {w : Int} (o : Ok s) (w0 : 0 ≤ w) {l : List (Str × Int)} (h : ∀ e ∈ l, -w ≤ e.2 ∧ e.2 ≤ w) : bndR ((l.length : Int) * w) (runF s l) := by
  have key : ∀ (l : List (Str × Int)) (row : Row) (B : Int), (∀ e ∈ l, -w ≤ e.2 ∧ e.2 ≤ w) → 0 ≤ B → bndR B row → bndR (B + (l.length : Int) * w) (l.foldl (fun row e => stepF s.side (ruleOf s e.1) row e.2) row) := by
    intro l
    induction l with
    | nil => intro row B _ _ h; simpa using h
    | cons e l ih =>
      intro row B h b0 hb
      have h1 := step_bnd hb b0 w0 (h e (List.mem_cons_self ..)) s.side (ruleOf s e.1)
      have h2 := ih _ (B + w) (fun x hx => h x (List.mem_cons_of_mem _ hx)) (by omega) h1
      rw [List.length_cons, show (((l.length + 1 : Nat)) : Int) * w = w + (l.length : Int) * w by rw [Int.natCast_add, Int.add_mul]; simp; omega]
      rw [← Int.add_assoc]
      exact h2
  have := key l s.start 0 h (Int.le_refl 0) fun z hz => by
    rcases o.ss _ hz with e | e
    · cases e
    · cases e; omega
  rw [Int.zero_add] at this
  exact this
def big : Int := 1000000000000000000000000000000000
theorem res_bnd {B : Int} {row : Row} (h : bndR B row) {g : Bool} {ends : List Str} {z : Int} (e : resF g ends row = some z) : -B ≤ z ∧ z ≤ B := by
  obtain ⟨h1, _⟩ := best_in e
  obtain ⟨u, _, hu⟩ := List.mem_filterMap.mp h1
  unfold rowAt at hu
  split at hu
  · rename_i x hx
    subst hu
    exact h z (List.of_mem_zip (lookup_in hx)).2
  · cases hu
theorem call_bnd {s : Stc} (o : Ok s) {l : List (Str × Int)} (hl : l.length ≤ 1000) (h : ∀ e ∈ l, EvOk s.kinds e) {z : Int} (e : callF s l = some z) : -big ≤ z ∧ z ≤ big := by
  have b := res_bnd (run_bnd (w := 1000000000000000000000000000000) o (by decide) (l := l) fun x hx => ⟨(h x hx).lo, (h x hx).hi⟩) e
  have : (l.length : Int) * 1000000000000000000000000000000 ≤ 1000 * 1000000000000000000000000000000 := Int.mul_le_mul_of_nonneg_right (by omega) (by decide)
  unfold big
  omega
theorem sh_int {z : Int} (h : -big ≤ z ∧ z ≤ big) : Sh 0 201 (.int z) := by
  unfold big at h
  refine Sh.int (k := 200) (by decide) ?_ (by decide)
  by_cases c : z.natAbs = 0
  · rw [c]; decide
  · exact (Nat.log2_lt c).mpr (by omega)
theorem sh_opt {o : Option Int} (h : ∀ z, o = some z → -big ≤ z ∧ z ≤ big) : Sh 0 201 (oiP o) := by
  cases o with
  | none => exact Sh.non.mono (Nat.le_refl _) (by decide)
  | some z => exact sh_int (h z rfl)
theorem neX_self {p : P} {ρ : D.Env} {S : Store} {k : K1} (h0 : insD S (.v p) = none) (ha : asD ρ S (.v p) = some p) (hp : p.isE = true) (hd : p.dep ≤ 50) (h : k (.bl false)) : neX eqCs tsp___eq__ (.v p) (.v p) ρ S k := by
  unfold neX
  simp only [h0, neD, ha]
  rw [eqSelf hp]
  refine ⟨?_, h⟩
  unfold eqOk
  rw [hp]
  simp
  omega
theorem neX_str {t : Str} {ρ : D.Env} {S : Store} {k : K1} (h : k (.bl false)) : neX eqCs tsp___eq__ (.v (.str t)) (.v (.str t)) ρ S k := neX_self rfl rfl rfl (by show (0 : Nat) ≤ 50; decide) h
theorem eqX_str {a b : Str} {ρ : D.Env} {S : Store} {k : K1} (h : k (.bl (decide (a = b)))) : eqX eqCs tsp___eq__ (.v (.str a)) (.v (.str b)) ρ S k := by
  unfold eqX
  simp only [show insD S (.v (.str a)) = none from rfl, eqD, asD, eqOk_str, eqP_str]
  exact ⟨trivial, h⟩
end K08
/-! K08D: texts written and read: the law of k08. -/
namespace K08
open PySem PySem.Spec L2 D
open TL (tl tl_append)
def LR1 (W : DXr) : DS := SAsg (T2 ixD (TLst (ACons (TCl W d__law_small [] (ACons (TV 0) (ANil))) (ACons (TCl W d__law_great [] (ACons (TV 0) (ANil))) (ANil)))) (TCl W d__law_draw [] (ACons (TV 0) (ACons (TC (P.int 2)) (ANil))))) (GN 1)
def LR2 (W : DXr) : DS := SAsg (TTup (ACons (TCl W d__law_of [] (ACons (TV 1) (ANil))) (ACons (TCl W d__law_text [] (ACons (TV 1) (ANil))) (ANil)))) (GT 2 (GCons (GN 2) (GCons (GN 3) (GNil))))
def LR3 (W : DXr) : DS := SIf (BOr (B2 (neX eqCs tsp___eq__) (TCall (strX tsp___str__) (ACons (TV 2) (ANil))) (TV 3)) (B2 (neX eqCs tsp___eq__) (TCall (strX tsp___str__) (ACons (TV 2) (ANil))) (TV 3))) (SRet (TC (P.bl false))) (SNext)
def LR4 (W : DXr) : DS := SAsg (TLst (ACons (TSm tsm_read_1 1 0 W (TC (P.cl "Statistic")) (A2p (ACons (TV 3) (ANil)))) (ACons (TSm tsm_read_0_text 0 1 W (TC (P.cl "Statistic")) (A2k ANil (ACons (TV 3) (ANil)))) (ACons (TSm tsm_read_1 1 0 W (TC (P.cl "Greatest")) (A2p (ACons (TV 3) (ANil)))) (ACons (TSm tsm_read_1 1 0 W (TC (P.cl "Least")) (A2p (ACons (TV 3) (ANil)))) (ANil)))))) (GN 4)
def LR5 (W : DXr) : DS := SAsg (TCl W d__law_events [] (ACons (TV 0) (ACons (TV 1) (ACons (TC (P.int 6)) (ACons (TC (P.int 9)) (ANil)))))) (GN 5)
def LR6 (W : DXr) : DS := SAsg (TCall reprD (ACons (TLst (ACons (TV 1) (ACons (TCl W d__law_result [] (ACons (TV 1) (ACons (TV 5) (ANil)))) (ACons (TV 3) (ANil))))) (ANil))) (GN 6)
def LB0 (W : DXr) : DS := SSeq (SIf (BOr (BNot (B2 (eqX eqCs tsp___eq__) (TV 7) (TV 2))) (B2 (neX eqCs tsp___eq__) (TCall reprD (ACons (TLst (ACons (TAtt "plain" tatt_plain (TV 7)) (ACons (TInst tinst___call___2 2 0 W (TV 7) (A2p (ACons (TV 5) (ANil)))) (ACons (TCall (strX tsp___str__) (ACons (TV 7) (ANil))) (ANil))))) (ANil))) (TV 6))) (SRet (TC (P.bl false))) (SNext)) (SSeq (SAsg (TLst (ACons (T2 (eqX eqCs tsp___eq__) (T2 ixD (TV 1) (TC (P.int 0))) (TC (P.str "greatest"))) (ACons (T2 (eqX eqCs tsp___eq__) (T2 ixD (TV 1) (TC (P.int 0))) (TC (P.str "least"))) (ANil)))) (GN 8)) (SIf (B2 (neX eqCs tsp___eq__) (TLst (ACons (TCall (isiX isCs isSub) (ACons (TV 7) (ACons (TC (P.cl "Greatest")) (ANil)))) (ACons (TCall (isiX isCs isSub) (ACons (TV 7) (ACons (TC (P.cl "Least")) (ANil)))) (ANil)))) (TV 8)) (SRet (TC (P.bl false))) (SNext)))
def LR7 (W : DXr) : DS := SFor (ISeq (TV 4)) (GN 7) (LB0 W)
def LR8 (W : DXr) : DS := SRet (TC (P.bl true))
theorem LR_eq (W : DXr) : T__law_right W = SSeq (LR1 W) (SSeq (LR2 W) (SSeq (LR3 W) (SSeq (LR4 W) (SSeq (LR5 W) (SSeq (LR6 W) (SSeq (LR7 W) (LR8 W))))))) := rfl
/-! ### how long the text of the text is -/
theorem sm_cat {a b : Str} (h1 : ∀ c ∈ tl a, c < 16 ^ 8) (h2 : ∀ c ∈ tl b, c < 16 ^ 8) : ∀ c ∈ tl (a ++ b), c < 16 ^ 8 := by
  intro c hc
  rw [tl_append] at hc
  exact (List.mem_append.mp hc).elim (h1 c) (h2 c)
theorem sm_join {y : Str} (h0 : ∀ c ∈ tl y, c < 16 ^ 8) : ∀ {ys : List Str}, (∀ z ∈ ys, ∀ c ∈ tl z, c < 16 ^ 8) → ∀ c ∈ tl (Str.join y ys), c < 16 ^ 8
  | [], _ => by
    intro c hc
    exact absurd hc (by show c ∉ ([] : List Nat); simp)
  | [z], h => h z (List.mem_cons_self ..)
  | z :: x :: r, h => by
    show ∀ c ∈ tl ((z ++ y) ++ Str.join y (x :: r)), c < 16 ^ 8
    exact sm_cat (sm_cat (h z (List.mem_cons_self ..)) h0) (sm_join h0 fun w hw => h w (List.mem_cons_of_mem _ hw))
theorem known_sm {n : Nat} (h : n ≤ 6) {s : Str} (hs : s ∈ known n) : ∀ c ∈ tl s, c < 16 ^ 8 := by
  have e : ∀ n : Nat, n < 7 → ((known n).all fun s => decide (∀ c ∈ tl s, c < 16 ^ 8)) = true := by decide +kernel
  exact of_decide_eq_true (List.all_eq_true.mp (e n (by omega)) s hs)
theorem slots_sm {s : Str} (hs : s ∈ slots) : ∀ c ∈ tl s, c < 16 ^ 8 := by
  have e : (slots.all fun s => decide (∀ c ∈ tl s, c < 16 ^ 8)) = true := by decide +kernel
  exact of_decide_eq_true (List.all_eq_true.mp e s hs)
theorem orS_sm {j : Str} (h : ∀ c ∈ tl j, c < 16 ^ 8) : ∀ c ∈ tl (orS j), c < 16 ^ 8 := by
  unfold orS
  split
  · exact h
  · decide +kernel
theorem names_sm {l : List Str} (hl : l ∈ nameLs) {m : Nat} : ∀ k ∈ l.take m, ∀ c ∈ tl k, c < 16 ^ 8 := fun k hk => by
  have e : (nameLs.all fun l => l.all fun s => decide (∀ c ∈ tl s, c < 16 ^ 8)) = true := by decide +kernel
  exact of_decide_eq_true (List.all_eq_true.mp (List.all_eq_true.mp e l hl) k (List.mem_of_mem_take hk))
theorem lines_sm {s : Stc} (o : Ok s) (hk : ∀ k ∈ s.kinds, ∀ c ∈ tl k, c < 16 ^ 8) : ∀ y ∈ linesF s, ∀ c ∈ tl y, c < 16 ^ 8 := by
  intro y hy
  unfold linesF at hy
  rcases (List.mem_append.mp hy) with h | h
  · rcases (List.mem_append.mp h) with h | h
    · simp only [List.mem_cons, List.not_mem_nil, or_false] at h
      rcases h with rfl | rfl | rfl
      · cases s.side <;> decide +kernel
      · refine sm_join (by decide +kernel) fun z hz => ?_
        rcases (List.mem_cons.mp hz) with rfl | hz
        · decide +kernel
        · exact hk z hz
      · refine sm_join (by decide +kernel) fun z hz => ?_
        rcases (List.mem_cons.mp hz) with rfl | hz
        · decide +kernel
        · obtain ⟨x, _, rfl⟩ := List.mem_map.mp hz
          unfold startW
          split <;> decide +kernel
    · obtain ⟨k, hk', r, hr, rfl⟩ := zip_mem h
      unfold ruleLine
      refine sm_cat (sm_cat (sm_cat (by decide +kernel) (hk k hk')) (by decide +kernel)) (sm_join (by decide +kernel) fun z hz => ?_)
      obtain ⟨x, hx, t, ht, rfl⟩ := zip_mem hz
      unfold termLine
      exact sm_cat (sm_cat (slots_sm hx) (by decide +kernel)) (orS_sm (sm_join (by decide +kernel) fun w hw => known_sm o.s6 (((o.rn r hr).2 t ht).subset hw)))
  · cases List.mem_singleton.mp h
    refine sm_join (by decide +kernel) fun z hz => ?_
    rcases (List.mem_cons.mp hz) with rfl | hz
    · decide +kernel
    · exact slots_sm (List.mem_of_mem_take (o.es.subset hz))
theorem sh_text {s : Stc} (o : Ok s) (hk : ∀ k ∈ s.kinds, ∀ c ∈ tl k, c < 16 ^ 8) : Sh 0 48100 (.str (textF s)) := by
  have h1 := StrLaws.reprText_len (textF s) (sm_join (by decide +kernel) (lines_sm o hk))
  have h2 := textF_len o
  exact Sh.str.mono (Nat.le_refl _) (by omega)
def toldT (s : Stc) (l : List (Str × Int)) : List P := [plP s, oiP (callF s l), .str (textF s)]
theorem sh_told {s : Stc} {l : List (Str × Int)} (o : Ok s) (hk : ∀ k ∈ s.kinds, ∀ c ∈ tl k, c < 16 ^ 8) (hr : ∀ k ∈ s.kinds, (reprText k).length ≤ 12) (hl : l.length ≤ 1000) (h : ∀ e ∈ l, EvOk s.kinds e) : Sh 5 200000 (.lst (toldT s l)) := shL 3 200000 (n := 4) (B := 48100) (fun p hp => by
  simp only [toldT, List.mem_cons, List.not_mem_nil, or_false] at hp
  rcases hp with rfl | rfl | rfl
  · exact (sh_plain o hr).mono (Nat.le_refl _) (by decide)
  · exact (sh_opt fun z hz => call_bnd o hl h hz).mono (by decide) (by decide)
  · exact (sh_text o hk).mono (by decide) (Nat.le_refl _)) (by show (3 : Nat) ≤ 3; decide) (by decide)
/-! ### the law, statement by statement -/
abbrev rE (a : Addr) (s : Stc) (v4 v5 v6 v7 v8 : Sl) : D.Env := [.v (.ref a), .v (plP s), .v (stP s), .v (.str (textF s)), v4, v5, v6, v7, v8]
theorem strX_do {s : Stc} {i : Nat} {ρ : D.Env} {S : Store} {K : DQ} (o : Ok s) (hi : ρ[i]? = some (.v (stP s))) (h : K (.v (.str (textF s))) ρ S) : TCall (strX tsp___str__) (ACons (TV i) (ANil)) ρ S K := by
  simp only [TCall, ACons, ANil, TV, hi]
  exact strX_st o h
section
variable {s : Stc} {a : Addr} {l : List (Str × Int)} {W : DXr} {S : Store} {Q : P → Store → Prop} {Dn : DEnds} {v1 v2 v3 v4 v5 v6 v7 v8 : Sl}
theorem lr1 (hS : PoolAt S a) (h : ∀ s S', Ok s → (∃ l ∈ nameLs, ∃ m, s.kinds = l.take m) → PoolAt S' a → Dn.nx [.v (.ref a), .v (plP s), v2, v3, v4, v5, v6, v7, v8] S') : LR1 W Dn [.v (.ref a), v1, v2, v3, v4, v5, v6, v7, v8] S := by
  simp only [LR1]
  refine asg_do (t2_do ?_)
  refine lst2_do ?_
  simp only [TCl, ACons, ANil, TV, TC, vals, Option.map_some, List.append_nil, List.getElem?_cons_succ, List.getElem?_cons_zero]
  refine s_lsmallK hS fun s1 S1 o1 n1 hS1 => ?_
  refine s_lgreatK hS1 fun s2 S2 o2 n2 hS2 => ?_
  refine ⟨szN (by show (2 : Nat) ≤ 10000000; decide), s_draw hS2 (by decide) (by decide) fun r S3 r0 r1 hS3 => ?_⟩
  simp only [ixD, asQ, asL]
  have h2 : r = 0 ∨ r = 1 := by omega
  rcases h2 with rfl | rfl
  · exact h s1 S3 o1 n1 hS3
  · exact h s2 S3 o2 n2 hS3
theorem lr2 (o : Ok s) (h : Dn.nx (rE a s v4 v5 v6 v7 v8) S) : LR2 W Dn [.v (.ref a), .v (plP s), v2, v3, v4, v5, v6, v7, v8] S := by
  simp only [LR2]
  refine asg_do (tup2_do ?_)
  simp only [TCl, ACons, ANil, TV, vals, Option.map_some, List.append_nil, List.getElem?_cons_succ, List.getElem?_cons_zero]
  refine s_lof o (s_ltext o ?_)
  refine ⟨szN (by show (2 : Nat) ≤ 10000000; decide), ?_⟩
  simp only [GT, GCons, GN, GNil, List.set_cons_succ, List.set_cons_zero]
  exact ⟨rfl, h⟩
theorem lr3 (o : Ok s) (h : Dn.nx (rE a s v4 v5 v6 v7 v8) S) : LR3 W Dn (rE a s v4 v5 v6 v7 v8) S := by
  have one : ∀ (K : Bool → D.Env → Store → Prop), K false (rE a s v4 v5 v6 v7 v8) S → B2 (neX eqCs tsp___eq__) (TCall (strX tsp___str__) (ACons (TV 2) (ANil))) (TV 3) (rE a s v4 v5 v6 v7 v8) S K := by
    intro K k
    refine t2b_do (strX_do o rfl ?_)
    simp only [TV, List.getElem?_cons_succ, List.getElem?_cons_zero]
    exact neX_str k
  simp only [LR3, SIf, BOr]
  refine one _ ?_
  simp only [Bool.false_eq_true, if_false]; refine one _ ?_
  simp only [Bool.false_eq_true, if_false, SNext]
  exact h
theorem lr4 (o : Ok s) (h : Dn.nx (rE a s (.v (.lst [stP s, stP s, stP s, stP s])) v5 v6 v7 v8) S) : LR4 W Dn (rE a s v4 v5 v6 v7 v8) S := by
  simp only [LR4]
  refine asg_do ?_
  simp only [TLst]
  refine acons_do (t_read o (.inl rfl) rfl ?_).1
  refine acons_do (t_read o (.inl rfl) rfl ?_).2
  refine acons_do (t_read o (.inr (.inl rfl)) rfl ?_).1
  refine acons_do (t_read o (.inr (.inr rfl)) rfl ?_).1
  simp only [ANil, vals, Option.map_some]
  refine ⟨szN (by show (4 : Nat) ≤ 10000000; decide), ?_⟩
  simp only [GN, List.set_cons_succ, List.set_cons_zero]
  exact h
theorem lr5 (hS : PoolAt S a) (o : Ok s) (h : ∀ l S', l.length = 6 → (∀ e ∈ l, EvOk s.kinds e) → PoolAt S' a → Dn.nx (rE a s v4 (.v (logP l)) v6 v7 v8) S') : LR5 W Dn (rE a s v4 v5 v6 v7 v8) S := by
  simp only [LR5]
  refine asg_do ?_
  simp only [TCl, ACons, ANil, TV, TC, vals, Option.map_some, List.append_nil, List.getElem?_cons_succ, List.getElem?_cons_zero]
  refine s_levents (n := 6) (w := 9) hS o (by decide) (by decide) (by decide) fun l S6 l1 l2 hS6 => ?_
  simp only [GN, List.set_cons_succ, List.set_cons_zero]
  exact h l S6 l1 l2 hS6
theorem lr6 (o : Ok s) (hl : l.length ≤ 1000) (ho : ∀ e ∈ l, EvOk s.kinds e) (sh : Sh 5 200000 (.lst (toldT s l))) (h : Dn.nx (rE a s v4 (.v (logP l)) (.v (.str (P.dat (.lst (toldT s l))).shown)) v7 v8) S) : LR6 W Dn (rE a s v4 (.v (logP l)) v6 v7 v8) S := by
  simp only [LR6]
  refine asg_do ?_
  simp only [TCall, TLst, TCl, ACons, ANil, TV, vals, Option.map_some, List.append_nil, List.getElem?_cons_succ, List.getElem?_cons_zero]
  refine s_lresult o (fun e he => (ho e he).m) ?_
  refine ⟨szN (by show (3 : Nat) ≤ 10000000; decide), ?_⟩
  refine sh.repr (r := .v (.lst (toldT s l))) rfl (by decide) (by decide) ?_
  simp only [GN, List.set_cons_succ, List.set_cons_zero]
  exact h
def sidesP (b : Bool) : P := .lst [.bl b, .bl (!b)]
theorem lb_body (o : Ok s) (hl : l.length ≤ 1000) (ho : ∀ e ∈ l, EvOk s.kinds e) (sh : Sh 5 200000 (.lst (toldT s l))) (h : ∀ v8, Dn.nx (rE a s v4 (.v (logP l)) (.v (.str (P.dat (.lst (toldT s l))).shown)) (.v (stP s)) v8) S) :
    LB0 W Dn (rE a s v4 (.v (logP l)) (.v (.str (P.dat (.lst (toldT s l))).shown)) (.v (stP s)) v8) S := by
  simp only [LB0]
  refine seq_do ?_
  simp only [SIf, BOr, BNot]
  refine t2b_do ?_
  simp only [TV, List.getElem?_cons_succ, List.getElem?_cons_zero]
  refine eqX_st ?_
  rw [eqP_self]
  simp only [Bool.not_true, Bool.false_eq_true, if_false]; refine t2b_do ?_
  simp only [TCall.eq_1 reprD, ACons.eq_1 (TLst _), ANil, TLst]
  refine acons_do ?_
  simp only [TAtt, TV, List.getElem?_cons_succ, List.getElem?_cons_zero]
  refine a_plain (acons_do ?_)
  refine i_call (l := l) o (tv_do rfl) (fun K k => ?_) hl ho ?_
  · simp only [ACons, ANil, TV, List.getElem?_cons_succ, List.getElem?_cons_zero]
    exact k
  refine acons_do (strX_do o rfl ?_)
  simp only [vals, Option.map_some]
  refine ⟨szN (by show (3 : Nat) ≤ 10000000; decide), ?_⟩
  refine sh.repr (r := .v (.lst (toldT s l))) rfl (by decide) (by decide) ?_
  simp only [TV, List.getElem?_cons_succ, List.getElem?_cons_zero]
  refine neX_str ?_
  simp only [Bool.false_eq_true, if_false, SNext]
  have hx : ∀ {ρ : D.Env} {K : K1}, K (.str (sideS s.side)) → ixD (.v (plP s)) (.v (.int 0)) ρ S K := fun k => k
  have e1 : decide (sideS s.side = ("greatest" : Str)) = s.side := side_eq _
  have e2 : decide (sideS s.side = ("least" : Str)) = !s.side := by cases s.side <;> decide
  refine seq_do (asg_do (lst2_do ?_))
  refine t2_do (t2_do ?_)
  simp only [TV, TC, List.getElem?_cons_succ, List.getElem?_cons_zero]
  refine hx (eqX_str ?_)
  refine t2_do (t2_do ?_)
  simp only [TV, TC, List.getElem?_cons_succ, List.getElem?_cons_zero]
  refine hx (eqX_str ?_)
  rw [e1, e2]
  simp only [vals, Option.map_some]
  refine ⟨szN (by show (2 : Nat) ≤ 10000000; decide), ?_⟩
  simp only [GN, List.set_cons_succ, List.set_cons_zero]
  simp only [SIf]
  refine t2b_do (lst2_do ?_)
  simp only [TCall, ACons, ANil, TV, TC, List.getElem?_cons_succ, List.getElem?_cons_zero, isiX, ins_st]
  have fin : ∀ {ρ : D.Env} {K : K1}, K (.bl false) → neX eqCs tsp___eq__ (.v (sidesP s.side)) (.v (sidesP s.side)) ρ S K := fun k => neX_self rfl rfl rfl (by cases s.side <;> decide) k
  have lk : isSub.lookup (nameC s.side) = some [nameC s.side, "Statistic"] := by cases s.side <;> rfl
  simp only [lk]
  have c1 : ([nameC s.side, "Statistic"] : List Str).contains "Greatest" = s.side := by cases s.side <;> decide
  have c2 : ([nameC s.side, "Statistic"] : List Str).contains "Least" = !s.side := by cases s.side <;> decide
  simp only [c1, c2]
  refine ⟨by decide, by decide, ?_⟩
  simp only [vals, Option.map_some]
  refine ⟨szN (by show (2 : Nat) ≤ 10000000; decide), ?_⟩
  refine fin ?_
  simp only [Bool.false_eq_true, if_false, SNext]
  exact h _
theorem lr7 (o : Ok s) (hl : l.length ≤ 1000) (ho : ∀ e ∈ l, EvOk s.kinds e) (sh : Sh 5 200000 (.lst (toldT s l))) (h : ∀ v7 v8, Dn.nx (rE a s (.v (.lst [stP s, stP s, stP s, stP s])) (.v (logP l)) (.v (.str (P.dat (.lst (toldT s l))).shown)) v7 v8) S) :
    LR7 W Dn (rE a s (.v (.lst [stP s, stP s, stP s, stP s])) (.v (logP l)) (.v (.str (P.dat (.lst (toldT s l))).shown)) v7 v8) S := by
  simp only [LR7, SFor, ISeq, TV, List.getElem?_cons_succ, List.getElem?_cons_zero, asI]
  refine for_i (fun pre ρ S' => S' = S ∧ ∃ v7 v8, ρ = rE a s (.v (.lst [stP s, stP s, stP s, stP s])) (.v (logP l)) (.v (.str (P.dat (.lst (toldT s l))).shown)) v7 v8) (fun pre p post ee ρ S' ⟨hS, v7, v8, hρ⟩ D' h1 h2 h3 h4 => ?_) ⟨rfl, _, _, rfl⟩ fun ρ S' ⟨hS, v7, v8, hρ⟩ => ?_
  · subst hS hρ
    have hp : p = stP s := by
      have : p ∈ [stP s, stP s, stP s, stP s] := by rw [ee]; simp
      simpa using this
    subst hp
    simp only [GN, List.set_cons_succ, List.set_cons_zero]
    exact lb_body o hl ho sh fun v8 => h1 _ _ ⟨rfl, _, _, rfl⟩
  · subst hS hρ
    exact h _ _
theorem s_lright {E : DX} (hS : PoolAt S a) (h : ∀ S', Q (.bl true) S') : d__law_right [.ref a] S Q E := by
  refine ⟨rfl, ?_⟩
  rw [LR_eq, show startE N__law_right [P.ref a] = [.v (.ref a), .un, .un, .un, .un, .un, .un, .un, .un] from rfl]
  refine seq_do (lr1 (W := fun c fs x S' => E c fs S') hS fun s S1 o hn hS1 => ?_)
  have hr : ∀ k ∈ s.kinds, (reprText k).length ≤ 12 := by
    obtain ⟨l, hl, m, e⟩ := hn
    rw [e]
    exact name_len hl
  have hk : ∀ k ∈ s.kinds, ∀ c ∈ tl k, c < 16 ^ 8 := by
    obtain ⟨l, hl, m, e⟩ := hn
    rw [e]
    exact names_sm hl
  refine seq_do (lr2 (W := fun c fs x S' => E c fs S') o ?_)
  refine seq_do (lr3 (W := fun c fs x S' => E c fs S') o ?_)
  refine seq_do (lr4 (W := fun c fs x S' => E c fs S') o ?_)
  refine seq_do (lr5 (W := fun c fs x S' => E c fs S') hS1 o fun l S2 hl ho hS2 => ?_)
  have sh := sh_told o hk hr (by omega) ho
  refine seq_do (lr6 (W := fun c fs x S' => E c fs S') o (by omega) ho sh ?_)
  refine seq_do (lr7 (W := fun c fs x S' => E c fs S') o (by omega) ho sh fun v7 v8 => ?_)
  simp only [LR8, SRet, TC]
  exact h S2
end
/-! ### the great statistic of the law -/
def fullS : Stc := ⟨false, ["a", "b", "c", "d"], [some 0, none, some 0, none, some 0, none], List.replicate 4 (List.replicate 6 (known 6)), slots⟩
theorem full_ok : Ok fullS where
  k1 := by decide
  k4 := by decide
  kk := by decide +kernel
  ka := asc_pw _ (by decide +kernel)
  s1 := by decide
  s6 := by decide
  ss := by decide
  rl := by decide
  rn := fun r hr => by
    rw [List.eq_of_mem_replicate hr]
    exact ⟨rfl, fun t ht => by rw [List.eq_of_mem_replicate ht]; exact List.Sublist.refl _⟩
  el := by decide
  es := List.Sublist.refl _
theorem law_plain : ∀ as S Q E, dLaw 63 as S Q E → d_law as S Q noX := by
  rintro as S Q E ⟨ns, rfl, hl, h⟩
  refine ⟨rfl, ?_⟩
  refine seq_do (asg_do ?_)
  simp only [TCall, TCl, ACons, ANil, TC, vals, Option.map_some, List.append_nil, startE, N_law, List.map_cons, List.map_nil, List.cons_append, List.nil_append, List.length_cons, List.length_nil, List.replicate]
  refine s_lterms (n := 6) (by decide) ?_
  simp only [tupD, asQ, asL, GN, List.set_cons_succ, List.set_cons_zero]
  refine seq_do (asg_do ?_)
  simp only [TTup, ACons, ANil, TC, vals, Option.map_some]
  refine ⟨szN (by show (6 : Nat) ≤ 10000000; decide), ?_⟩
  simp only [GN, List.set_cons_succ, List.set_cons_zero]
  refine seq_do (asg_do ?_)
  have mul : ∀ {xs : List P} {j : Int} {ρ : D.Env} {S : Store} {K : K1}, xs ≠ [] → 2 ≤ j → j ≤ 1000 → xs.length ≤ 1000 → K (.tup (List.replicate j.toNat xs).flatten) → mulY (.v (.tup xs)) (.v (.int j)) ρ S K := by
    intro xs j ρ S K h1 h2 h3 h4 k
    unfold mulY
    simp only [show ¬ j = 1 by omega, if_false]
    exact ⟨h1, h2, h3, h4, k⟩
  have great : ∀ {ρ : D.Env} {S : Store} {K : DQ}, ρ[1]? = some (.v (.tup (strL (known 6)))) → ρ[2]? = some (.v (.tup [.str "r0", .str "r1", .str "r2", .str "r3", .str "r4", .str "r5"])) → K (.v (plP fullS)) ρ S →
      TTup (ACons (TC (P.str "least")) (ACons (TTup (ACons (TC (P.str "a")) (ACons (TC (P.str "b")) (ACons (TC (P.str "c")) (ACons (TC (P.str "d")) (ANil)))))) (ACons (T2 mulY (TTup (ACons (TC (P.int 0)) (ACons (TC P.non) (ANil)))) (TC (P.int 3))) (ACons (T2 mulY (TTup (ACons (T2 mulY (TTup (ACons (TV 1) (ANil))) (TC (P.int 6))) (ANil))) (TC (P.int 4))) (ACons (TV 2) (ANil)))))) ρ S K := by
    intro ρ S K r1 r2 k
    simp only [TTup, ACons, ANil, TC, vals, Option.map_some]
    refine ⟨szN (by decide), t2_do ?_⟩
    simp only [TC]
    refine ⟨szN (by decide), mul (by simp) (by decide) (by decide) (by decide) (t2_do ?_)⟩
    refine acons_do (t2_do ?_)
    simp only [TTup, ACons, ANil, TV, r1, TC, vals, Option.map_some]
    refine ⟨szN (by show (1 : Nat) ≤ 10000000; decide), mul (by simp) (by decide) (by decide) (by show (1 : Nat) ≤ 1000; decide) ?_⟩
    refine ⟨szN (by show (1 : Nat) ≤ 10000000; decide), mul (by simp) (by decide) (by decide) (by show (1 : Nat) ≤ 1000; decide) ?_⟩
    simp only [r2, vals, Option.map_some]
    exact ⟨szN (by show (5 : Nat) ≤ 10000000; decide), k⟩
  refine great rfl rfl ?_
  simp only [GN, List.set_cons_succ, List.set_cons_zero]
  refine seq_do (asg_do ?_)
  simp only [TCl, ACons, ANil, TV, vals, Option.map_some, List.append_nil, List.getElem?_cons_succ, List.getElem?_cons_zero]
  refine s_ltext full_ok ?_
  simp only [GN, List.set_cons_succ, List.set_cons_zero]
  refine seq_do ?_
  simp only [SIf, BOr]
  refine t2b_do ?_
  simp only [TCall, TCl, ACons, ANil, TV, vals, Option.map_some, List.append_nil, List.getElem?_cons_succ, List.getElem?_cons_zero]
  refine s_lof full_ok (strX_st full_ok ?_)
  have neD_self : ∀ {p : P} {ρ : D.Env} {S : Store} {k : K1}, asD ρ S (.v p) = some p → p.isE = true → p.dep ≤ 50 → k (.bl false) → neD (.v p) (.v p) ρ S k := by
    intro p ρ S k ha hp hd h
    simp only [neD, ha]
    rw [eqSelf hp]
    refine ⟨?_, h⟩
    unfold eqOk
    rw [hp]
    simp
    omega
  refine neD_self rfl rfl (by show (0 : Nat) ≤ 50; decide) ?_
  simp only [Bool.false_eq_true, if_false]; refine t2b_do ?_
  simp only [TAtt]
  refine (t_read full_ok (.inl rfl) rfl ?_).1
  refine a_plain ?_
  simp only [TV, List.getElem?_cons_succ, List.getElem?_cons_zero]
  refine neD_self rfl (isE_plain _) (dep_plain _) ?_
  simp only [Bool.false_eq_true, if_false, SNext]
  simp only [SRet, TCall, TFz, NLc, IR1, ACons, ANil, TC, TV, List.getElem?_cons_succ, List.getElem?_cons_zero, lenD, asQ, asL, minD, maxD]
  generalize hm : (if (if ((ns.map P.int).length : Int) < 6 then ((ns.map P.int).length : Int) else 6) > 2 then (if ((ns.map P.int).length : Int) < 6 then ((ns.map P.int).length : Int) else 6) else 2) = m
  have m6 : 0 ≤ m ∧ m ≤ 6 := by rw [← hm]; split <;> split <;> omega
  obtain ⟨n, rfl⟩ : ∃ n : Nat, m = n := ⟨m.toNat, by omega⟩
  refine ⟨⟨by omega, by omega⟩, szN (by rw [rangeP_len]; omega), ?_⟩
  refine comp_rel (fun _ : Unit => P.bl true) (fun _ _ => True) (fun _ => True) (fun p hp S1 _ K k => ?_) trivial fun ys S1 _ _ _ => ?_
  · obtain ⟨j, hj, rfl⟩ := rangeP_mem hp
    simp only [GN, TCl, ACons, ANil, TV, vals, Option.map_some, List.append_nil, wipeE, List.set_cons_succ, List.set_cons_zero, List.getElem?_cons_succ, List.getElem?_cons_zero]
    refine s_cell (by omega) (by omega) fun c => ?_
    refine s_pool fun a S3 hS3 => ?_
    exact s_lright hS3 fun S4 => k () _ S4 trivial trivial rfl
  · obtain ⟨bs, e1, e2⟩ := bls_true (ys.map fun _ => P.bl true) (by simp)
    simp only [frzO, allD, asL, Option.bind_some, e1, e2]
    exact h S1
end K08
namespace K08
open PySem PySem.Spec L2 D
abbrev R : PySem.W.OpenRow := PySem.W.OpenLaw.row PySem.Challenge.rw_tallypeaks_k08_texts_written_and_read
abbrev qv : Program := PySem.W.view R.prog [78]
def nm0 : List PySem.Str := [("_wall" : PySem.Str), ("TallyError" : PySem.Str), ("InvalidKinds" : PySem.Str), ("InvalidStart" : PySem.Str), ("InvalidRules" : PySem.Str), ("InvalidResult" : PySem.Str), ("InvalidLog" : PySem.Str), ("InvalidText" : PySem.Str), ("NotAStatistic" : PySem.Str), ("SearchError" : PySem.Str), ("UnknownKind" : PySem.Str), ("ConflictError" : PySem.Str)]
def nm1 : List PySem.Str := [("NotComparable" : PySem.Str), ("LimitError" : PySem.Str), ("TooMany" : PySem.Str), ("MAX_KINDS" : PySem.Str), ("MAX_REGISTERS" : PySem.Str), ("MAX_EVENTS" : PySem.Str), ("MAX_AMOUNT" : PySem.Str), ("LETTERS" : PySem.Str), ("is_integer" : PySem.Str), ("is_kind" : PySem.Str), ("is_amount" : PySem.Str), ("is_event" : PySem.Str)]
def nm2 : List PySem.Str := [("first_wrong" : PySem.Str), ("check_log" : PySem.Str), ("REGISTERS" : PySem.Str), ("terms_of" : PySem.Str), ("source_of" : PySem.Str), ("term_from" : PySem.Str), ("best_of" : PySem.Str), ("stepped" : PySem.Str), ("read_out" : PySem.Str), ("first_fall" : PySem.Str), ("check_kinds" : PySem.Str), ("check_start" : PySem.Str)]
def nm3 : List PySem.Str := [("is_rule" : PySem.Str), ("check_rules" : PySem.Str), ("check_result" : PySem.Str), ("Statistic" : PySem.Str), ("Greatest" : PySem.Str), ("Least" : PySem.Str), ("made" : PySem.Str), ("check_statistic" : PySem.Str), ("check_two" : PySem.Str), ("raised" : PySem.Str), ("raised_rule" : PySem.Str), ("lines_of" : PySem.Str)]
def nm4 : List PySem.Str := [("read_words" : PySem.Str), ("read_terms" : PySem.Str), ("read_rule" : PySem.Str), ("line_at" : PySem.Str), ("read_kinds" : PySem.Str), ("read_start" : PySem.Str), ("read_lines" : PySem.Str), ("_law_cell" : PySem.Str), ("_law_pool" : PySem.Str), ("_law_draw" : PySem.Str), ("_law_terms" : PySem.Str), ("_law_some" : PySem.Str)]
def nm5 : List PySem.Str := [("_law_named" : PySem.Str), ("_law_plain" : PySem.Str), ("_law_small" : PySem.Str), ("_law_great" : PySem.Str), ("_law_of" : PySem.Str), ("_law_source" : PySem.Str), ("_law_best" : PySem.Str), ("_law_step" : PySem.Str), ("_law_end" : PySem.Str), ("_law_result" : PySem.Str), ("_law_events" : PySem.Str), ("_law_text" : PySem.Str)]
def nm6 : List PySem.Str := [("_law_right" : PySem.Str)]
def names : List PySem.Str := nm0 ++ nm1 ++ nm2 ++ nm3 ++ nm4 ++ nm5 ++ nm6
def ex0 : List FxB := [fun K => (He.Fa.free "abs").ok K, fun K => (He.Fa.free "all").ok K, fun K => (He.Fa.free "any").ok K, fun K => (He.Fa.free "bool").ok K, fun K => (He.Fa.free "divmod").ok K, fun K => (He.Fa.free "enumerate").ok K, fun K => (He.Fa.free "int").ok K, fun K => (He.Fa.free "isinstance").ok K, fun K => (He.Fa.free "len").ok K, fun K => (He.Fa.free "max").ok K]
def ex1 : List FxB := [fun K => (He.Fa.free "min").ok K, fun K => (He.Fa.free "range").ok K, fun K => (He.Fa.free "repr").ok K, fun K => (He.Fa.free "str").ok K, fun K => (He.Fa.free "tuple").ok K, fun K => (He.Fa.free "zip").ok K, fun K => (He.Fa.str "LETTERS" "abcdefghijklmnopqrstuvwxyz").ok K, fun K => (He.Fa.int "MAX_AMOUNT" 1000000000000000000000000000000).ok K, fun K => (He.Fa.int "MAX_EVENTS" 1000).ok K, fun K => (He.Fa.int "MAX_KINDS" 4).ok K]
def ex2 : List FxB := [fun K => (He.Fa.int "MAX_REGISTERS" 6).ok K, tupZ "REGISTERS" [.str "r0", .str "r1", .str "r2", .str "r3", .str "r4", .str "r5"], fun K => (He.Fa.glo "_law_terms").ok K, fun K => (He.Fa.glo "_law_text").ok K, fun K => (He.Fa.glo "first_fall").ok K, fun K => (He.Fa.glo "is_kind").ok K, fun K => (He.Fa.glo "check_kinds").ok K, fun K => (He.Fa.glo "is_integer").ok K, fun K => (He.Fa.glo "check_start").ok K, fun K => (He.Fa.glo "terms_of").ok K]
def ex3 : List FxB := [fun K => (He.Fa.glo "is_rule").ok K, fun K => (He.Fa.glo "check_rules").ok K, fun K => (He.Fa.glo "check_result").ok K, fun K => (He.Fa.glo "_law_of").ok K, fun K => (He.Fa.glo "lines_of").ok K, fun K => (He.Fa.glo "line_at").ok K, fun K => (He.Fa.glo "read_words").ok K, fun K => (He.Fa.glo "read_kinds").ok K, fun K => (He.Fa.glo "read_start").ok K, fun K => (He.Fa.glo "read_terms").ok K]
def ex4 : List FxB := [fun K => (He.Fa.glo "read_rule").ok K, fun K => (He.Fa.glo "made").ok K, fun K => (He.Fa.glo "read_lines").ok K, fun K => (He.Fa.glo "_law_draw").ok K, fun K => (He.Fa.glo "_law_some").ok K, fun K => (He.Fa.glo "_law_named").ok K, fun K => (He.Fa.glo "_law_plain").ok K, fun K => (He.Fa.glo "_law_great").ok K, fun K => (He.Fa.glo "_law_small").ok K, fun K => (He.Fa.glo "_law_events").ok K]
def ex5 : List FxB := [fun K => (He.Fa.glo "_law_source").ok K, fun K => (He.Fa.glo "_law_best").ok K, fun K => (He.Fa.glo "_law_step").ok K, fun K => (He.Fa.glo "_law_end").ok K, fun K => (He.Fa.glo "_law_result").ok K, fun K => (He.Fa.glo "is_amount").ok K, fun K => (He.Fa.glo "is_event").ok K, fun K => (He.Fa.glo "first_wrong").ok K, fun K => (He.Fa.glo "check_log").ok K, fun K => (He.Fa.glo "source_of").ok K]
def ex6 : List FxB := [fun K => (He.Fa.glo "best_of").ok K, fun K => (He.Fa.glo "stepped").ok K, fun K => (He.Fa.glo "read_out").ok K, fun K => (He.Fa.glo "_law_right").ok K, fun K => (He.Fa.glo "_law_pool").ok K, fun K => (He.Fa.glo "_law_cell").ok K, fun K => (He.Fa.glo "law").ok K, fun K => spB K "Greatest" "__str__" (aM K "Statistic" "__str__"), fun K => spB K "Least" "__str__" (aM K "Statistic" "__str__"), fun K => (He.Fa.glo "Statistic").ok K]
def ex7 : List FxB := [fun K => smB K "Statistic" "read" (aW K "staticmethod" "Statistic" "read"), fun K => smB K "Greatest" "read" (aW K "staticmethod" "Statistic" "read"), fun K => smB K "Least" "read" (aW K "staticmethod" "Statistic" "read"), fun K => clsB K "Greatest", fun K => propB K "Greatest" "plain" (aW K "property" "Statistic" "plain"), fun K => clsB K "Least", fun K => propB K "Least" "plain" (aW K "property" "Statistic" "plain"), fun K => (He.Fa.glo "Greatest").ok K, fun K => mkB K "Greatest" (aM K "Statistic" "__init__"), fun K => mkB K "Least" (aM K "Statistic" "__init__")]
def ex8 : List FxB := [fun K => (He.Fa.glo "Least").ok K, fun K => noatB K "Greatest" "kinds", fun K => noatB K "Least" "kinds", fun K => noatB K "Greatest" "start", fun K => noatB K "Least" "start", fun K => noatB K "Greatest" "rules", fun K => noatB K "Least" "rules", fun K => noatB K "Greatest" "ends", fun K => noatB K "Least" "ends", fun K => conB K "Greatest" "SIDE" (V.str "greatest")]
def ex9 : List FxB := [fun K => conB K "Least" "SIDE" (V.str "least"), fun K => spB K "Greatest" "__eq__" (aM K "Statistic" "__eq__"), fun K => spB K "Least" "__eq__" (aM K "Statistic" "__eq__"), fun K => spB K "Greatest" "__call__" (aM K "Statistic" "__call__"), fun K => spB K "Least" "__call__" (aM K "Statistic" "__call__"), fun K => spB K "Greatest" "__getitem__" (aM K "Statistic" "__getitem__"), fun K => spB K "Least" "__getitem__" (aM K "Statistic" "__getitem__"), fun K => isiB K isCs isSub, fun K => eqB K eqCs ["Greatest", "Least"]]
def ex : List FxB := ex0 ++ (ex1 ++ (ex2 ++ (ex3 ++ (ex4 ++ (ex5 ++ (ex6 ++ (ex7 ++ (ex8 ++ (ex9)))))))))
def fn0 : List He5.DefA := [⟨fun K => He.ga K "_law_terms", "_law_terms", "_law_terms", defArgs st__law_terms, defBody st__law_terms, defScope st__law_terms, [], []⟩, ⟨fun K => He.ga K "_law_text", "_law_text", "_law_text", defArgs st__law_text, defBody st__law_text, defScope st__law_text, [], []⟩, ⟨fun K => He.ga K "first_fall", "first_fall", "first_fall", defArgs st_first_fall, defBody st_first_fall, defScope st_first_fall, [], []⟩, ⟨fun K => He.ga K "is_kind", "is_kind", "is_kind", defArgs st_is_kind, defBody st_is_kind, defScope st_is_kind, [], []⟩, ⟨fun K => He.ga K "check_kinds", "check_kinds", "check_kinds", defArgs st_check_kinds, defBody st_check_kinds, defScope st_check_kinds, [], []⟩, ⟨fun K => He.ga K "is_integer", "is_integer", "is_integer", defArgs st_is_integer, defBody st_is_integer, defScope st_is_integer, [], []⟩, ⟨fun K => He.ga K "check_start", "check_start", "check_start", defArgs st_check_start, defBody st_check_start, defScope st_check_start, [], []⟩, ⟨fun K => He.ga K "terms_of", "terms_of", "terms_of", defArgs st_terms_of, defBody st_terms_of, defScope st_terms_of, [], []⟩, ⟨fun K => He.ga K "is_rule", "is_rule", "is_rule", defArgs st_is_rule, defBody st_is_rule, defScope st_is_rule, [], []⟩, ⟨fun K => He.ga K "check_rules", "check_rules", "check_rules", defArgs st_check_rules, defBody st_check_rules, defScope st_check_rules, [], []⟩]
def fn1 : List He5.DefA := [⟨fun K => He.ga K "check_result", "check_result", "check_result", defArgs st_check_result, defBody st_check_result, defScope st_check_result, [], []⟩, ⟨fun K => (aM K "Statistic" "__init__"), "__init__", "Statistic.__init__", defArgs st_Statistic___init__, defBody st_Statistic___init__, defScope st_Statistic___init__, [], []⟩, ⟨fun K => He.ga K "_law_of", "_law_of", "_law_of", defArgs st__law_of, defBody st__law_of, defScope st__law_of, [], []⟩, ⟨fun K => He.ga K "lines_of", "lines_of", "lines_of", defArgs st_lines_of, defBody st_lines_of, defScope st_lines_of, [], []⟩, ⟨fun K => (aW K "property" "Statistic" "plain"), "plain", "Statistic.plain", defArgs st_Statistic_plain, defBody st_Statistic_plain, defScope st_Statistic_plain, [], []⟩, ⟨fun K => (aM K "Statistic" "__str__"), "__str__", "Statistic.__str__", defArgs st_Statistic___str__, defBody st_Statistic___str__, defScope st_Statistic___str__, [], []⟩, ⟨fun K => He.ga K "line_at", "line_at", "line_at", defArgs st_line_at, defBody st_line_at, defScope st_line_at, [], []⟩, ⟨fun K => He.ga K "read_words", "read_words", "read_words", defArgs st_read_words, defBody st_read_words, defScope st_read_words, [], []⟩, ⟨fun K => He.ga K "read_kinds", "read_kinds", "read_kinds", defArgs st_read_kinds, defBody st_read_kinds, defScope st_read_kinds, [], []⟩, ⟨fun K => He.ga K "read_start", "read_start", "read_start", defArgs st_read_start, defBody st_read_start, defScope st_read_start, [], []⟩]
def fn2 : List He5.DefA := [⟨fun K => He.ga K "read_terms", "read_terms", "read_terms", defArgs st_read_terms, defBody st_read_terms, defScope st_read_terms, [], []⟩, ⟨fun K => He.ga K "read_rule", "read_rule", "read_rule", defArgs st_read_rule, defBody st_read_rule, defScope st_read_rule, [], []⟩, ⟨fun K => He.ga K "made", "made", "made", defArgs st_made, defBody st_made, defScope st_made, [], []⟩, ⟨fun K => He.ga K "read_lines", "read_lines", "read_lines", defArgs st_read_lines, defBody st_read_lines, defScope st_read_lines, [], []⟩, ⟨fun K => (aW K "staticmethod" "Statistic" "read"), "read", "Statistic.read", defArgs st_Statistic_read, defBody st_Statistic_read, defScope st_Statistic_read, [], []⟩, ⟨fun K => He.ga K "_law_draw", "_law_draw", "_law_draw", defArgs st__law_draw, defBody st__law_draw, defScope st__law_draw, [], []⟩, ⟨fun K => He.ga K "_law_some", "_law_some", "_law_some", defArgs st__law_some, defBody st__law_some, defScope st__law_some, [], []⟩, ⟨fun K => He.ga K "_law_named", "_law_named", "_law_named", defArgs st__law_named, defBody st__law_named, defScope st__law_named, [], []⟩, ⟨fun K => He.ga K "_law_plain", "_law_plain", "_law_plain", defArgs st__law_plain, defBody st__law_plain, defScope st__law_plain, [], []⟩, ⟨fun K => He.ga K "_law_great", "_law_great", "_law_great", defArgs st__law_great, defBody st__law_great, defScope st__law_great, [], []⟩]
def fn3 : List He5.DefA := [⟨fun K => He.ga K "_law_small", "_law_small", "_law_small", defArgs st__law_small, defBody st__law_small, defScope st__law_small, [], []⟩, ⟨fun K => (aM K "Statistic" "__eq__"), "__eq__", "Statistic.__eq__", defArgs st_Statistic___eq__, defBody st_Statistic___eq__, defScope st_Statistic___eq__, [], []⟩, ⟨fun K => He.ga K "_law_events", "_law_events", "_law_events", defArgs st__law_events, defBody st__law_events, defScope st__law_events, [], []⟩, ⟨fun K => He.ga K "_law_source", "_law_source", "_law_source", defArgs st__law_source, defBody st__law_source, defScope st__law_source, [], []⟩, ⟨fun K => He.ga K "_law_best", "_law_best", "_law_best", defArgs st__law_best, defBody st__law_best, defScope st__law_best, [], []⟩, ⟨fun K => He.ga K "_law_step", "_law_step", "_law_step", defArgs st__law_step, defBody st__law_step, defScope st__law_step, [], []⟩, ⟨fun K => He.ga K "_law_end", "_law_end", "_law_end", defArgs st__law_end, defBody st__law_end, defScope st__law_end, [], []⟩, ⟨fun K => He.ga K "_law_result", "_law_result", "_law_result", defArgs st__law_result, defBody st__law_result, defScope st__law_result, [], []⟩, ⟨fun K => He.ga K "is_amount", "is_amount", "is_amount", defArgs st_is_amount, defBody st_is_amount, defScope st_is_amount, [], []⟩, ⟨fun K => He.ga K "is_event", "is_event", "is_event", defArgs st_is_event, defBody st_is_event, defScope st_is_event, [], []⟩]
def fn4 : List He5.DefA := [⟨fun K => He.ga K "first_wrong", "first_wrong", "first_wrong", defArgs st_first_wrong, defBody st_first_wrong, defScope st_first_wrong, [.non], []⟩, ⟨fun K => He.ga K "check_log", "check_log", "check_log", defArgs st_check_log, defBody st_check_log, defScope st_check_log, [.non], []⟩, ⟨fun K => He.ga K "source_of", "source_of", "source_of", defArgs st_source_of, defBody st_source_of, defScope st_source_of, [], []⟩, ⟨fun K => He.ga K "best_of", "best_of", "best_of", defArgs st_best_of, defBody st_best_of, defScope st_best_of, [], []⟩, ⟨fun K => He.ga K "stepped", "stepped", "stepped", defArgs st_stepped, defBody st_stepped, defScope st_stepped, [], []⟩, ⟨fun K => (aM K "Statistic" "__getitem__"), "__getitem__", "Statistic.__getitem__", defArgs st_Statistic___getitem__, defBody st_Statistic___getitem__, defScope st_Statistic___getitem__, [], []⟩, ⟨fun K => He.ga K "read_out", "read_out", "read_out", defArgs st_read_out, defBody st_read_out, defScope st_read_out, [], []⟩, ⟨fun K => (aM K "Statistic" "__call__"), "__call__", "Statistic.__call__", defArgs st_Statistic___call__, defBody st_Statistic___call__, defScope st_Statistic___call__, [], []⟩, ⟨fun K => He.ga K "_law_right", "_law_right", "_law_right", defArgs st__law_right, defBody st__law_right, defScope st__law_right, [], []⟩, ⟨fun K => He.ga K "_law_pool", "_law_pool", "_law_pool", defArgs st__law_pool, defBody st__law_pool, defScope st__law_pool, [], []⟩]
def fn5 : List He5.DefA := [⟨fun K => He.ga K "_law_cell", "_law_cell", "_law_cell", defArgs st__law_cell, defBody st__law_cell, defScope st__law_cell, [], []⟩, ⟨fun K => He.ga K "law", "law", "law", defArgs st_law, defBody st_law, defScope st_law, [], []⟩]
def fn : List He5.DefA := fn0 ++ (fn1 ++ (fn2 ++ (fn3 ++ (fn4 ++ (fn5)))))
theorem tx {K : PySem.W.Frag} {h : Heap} {mg : Str → Option Value} (X : K.In h) (G : h.Ns mainGlobals mg) (c : obsZ ex fn K = valZ fn) : Tx K mg where
  n_abs := He.free_ok X G (zfact c 0)
  n_all := He.free_ok X G (zfact c 1)
  n_any := He.free_ok X G (zfact c 2)
  n_bool := He.free_ok X G (zfact c 3)
  n_divmod := He.free_ok X G (zfact c 4)
  n_enumerate := He.free_ok X G (zfact c 5)
  n_int := He.free_ok X G (zfact c 6)
  n_isinstance := He.free_ok X G (zfact c 7)
  n_len := He.free_ok X G (zfact c 8)
  n_max := He.free_ok X G (zfact c 9)
  n_min := He.free_ok X G (zfact c 10)
  n_range := He.free_ok X G (zfact c 11)
  n_repr := He.free_ok X G (zfact c 12)
  n_str := He.free_ok X G (zfact c 13)
  n_tuple := He.free_ok X G (zfact c 14)
  n_zip := He.free_ok X G (zfact c 15)
  c_LETTERS := zstr X G (zfact c 16)
  c_MAX_AMOUNT := zint X G (zfact c 17)
  c_MAX_EVENTS := zint X G (zfact c 18)
  c_MAX_KINDS := zint X G (zfact c 19)
  c_MAX_REGISTERS := zint X G (zfact c 20)
  c_REGISTERS := ztup X G (zfact c 21) (fun _ _ _ => ⟨_, _, rfl, ⟨rfl, by decide +kernel, by decide +kernel⟩, ⟨_, _, rfl, ⟨rfl, by decide +kernel, by decide +kernel⟩, ⟨_, _, rfl, ⟨rfl, by decide +kernel, by decide +kernel⟩, ⟨_, _, rfl, ⟨rfl, by decide +kernel, by decide +kernel⟩, ⟨_, _, rfl, ⟨rfl, by decide +kernel, by decide +kernel⟩, ⟨_, _, rfl, ⟨rfl, by decide +kernel, by decide +kernel⟩, rfl⟩⟩⟩⟩⟩⟩)
  f__law_terms := (zdef c 0).elim fun fd M => ⟨_, fd, M, He.glo_ok X G (zfact c 22)⟩
  f__law_text := (zdef c 1).elim fun fd M => ⟨_, fd, M, He.glo_ok X G (zfact c 23)⟩
  f_first_fall := (zdef c 2).elim fun fd M => ⟨_, fd, M, He.glo_ok X G (zfact c 24)⟩
  f_is_kind := (zdef c 3).elim fun fd M => ⟨_, fd, M, He.glo_ok X G (zfact c 25)⟩
  f_check_kinds := (zdef c 4).elim fun fd M => ⟨_, fd, M, He.glo_ok X G (zfact c 26)⟩
  f_is_integer := (zdef c 5).elim fun fd M => ⟨_, fd, M, He.glo_ok X G (zfact c 27)⟩
  f_check_start := (zdef c 6).elim fun fd M => ⟨_, fd, M, He.glo_ok X G (zfact c 28)⟩
  f_terms_of := (zdef c 7).elim fun fd M => ⟨_, fd, M, He.glo_ok X G (zfact c 29)⟩
  f_is_rule := (zdef c 8).elim fun fd M => ⟨_, fd, M, He.glo_ok X G (zfact c 30)⟩
  f_check_rules := (zdef c 9).elim fun fd M => ⟨_, fd, M, He.glo_ok X G (zfact c 31)⟩
  f_check_result := (zdef c 10).elim fun fd M => ⟨_, fd, M, He.glo_ok X G (zfact c 32)⟩
  f_Statistic___init__ := zdef c 11
  f__law_of := (zdef c 12).elim fun fd M => ⟨_, fd, M, He.glo_ok X G (zfact c 33)⟩
  f_lines_of := (zdef c 13).elim fun fd M => ⟨_, fd, M, He.glo_ok X G (zfact c 34)⟩
  f_Statistic_plain := zdef c 14
  f_Statistic___str__ := zdef c 15
  f_line_at := (zdef c 16).elim fun fd M => ⟨_, fd, M, He.glo_ok X G (zfact c 35)⟩
  f_read_words := (zdef c 17).elim fun fd M => ⟨_, fd, M, He.glo_ok X G (zfact c 36)⟩
  f_read_kinds := (zdef c 18).elim fun fd M => ⟨_, fd, M, He.glo_ok X G (zfact c 37)⟩
  f_read_start := (zdef c 19).elim fun fd M => ⟨_, fd, M, He.glo_ok X G (zfact c 38)⟩
  f_read_terms := (zdef c 20).elim fun fd M => ⟨_, fd, M, He.glo_ok X G (zfact c 39)⟩
  f_read_rule := (zdef c 21).elim fun fd M => ⟨_, fd, M, He.glo_ok X G (zfact c 40)⟩
  f_made := (zdef c 22).elim fun fd M => ⟨_, fd, M, He.glo_ok X G (zfact c 41)⟩
  f_read_lines := (zdef c 23).elim fun fd M => ⟨_, fd, M, He.glo_ok X G (zfact c 42)⟩
  f_Statistic_read := zdef c 24
  f__law_draw := (zdef c 25).elim fun fd M => ⟨_, fd, M, He.glo_ok X G (zfact c 43)⟩
  f__law_some := (zdef c 26).elim fun fd M => ⟨_, fd, M, He.glo_ok X G (zfact c 44)⟩
  f__law_named := (zdef c 27).elim fun fd M => ⟨_, fd, M, He.glo_ok X G (zfact c 45)⟩
  f__law_plain := (zdef c 28).elim fun fd M => ⟨_, fd, M, He.glo_ok X G (zfact c 46)⟩
  f__law_great := (zdef c 29).elim fun fd M => ⟨_, fd, M, He.glo_ok X G (zfact c 47)⟩
  f__law_small := (zdef c 30).elim fun fd M => ⟨_, fd, M, He.glo_ok X G (zfact c 48)⟩
  f_Statistic___eq__ := zdef c 31
  f__law_events := (zdef c 32).elim fun fd M => ⟨_, fd, M, He.glo_ok X G (zfact c 49)⟩
  f__law_source := (zdef c 33).elim fun fd M => ⟨_, fd, M, He.glo_ok X G (zfact c 50)⟩
  f__law_best := (zdef c 34).elim fun fd M => ⟨_, fd, M, He.glo_ok X G (zfact c 51)⟩
  f__law_step := (zdef c 35).elim fun fd M => ⟨_, fd, M, He.glo_ok X G (zfact c 52)⟩
  f__law_end := (zdef c 36).elim fun fd M => ⟨_, fd, M, He.glo_ok X G (zfact c 53)⟩
  f__law_result := (zdef c 37).elim fun fd M => ⟨_, fd, M, He.glo_ok X G (zfact c 54)⟩
  f_is_amount := (zdef c 38).elim fun fd M => ⟨_, fd, M, He.glo_ok X G (zfact c 55)⟩
  f_is_event := (zdef c 39).elim fun fd M => ⟨_, fd, M, He.glo_ok X G (zfact c 56)⟩
  f_first_wrong := (zdef c 40).elim fun fd M => ⟨_, fd, M, He.glo_ok X G (zfact c 57)⟩
  f_check_log := (zdef c 41).elim fun fd M => ⟨_, fd, M, He.glo_ok X G (zfact c 58)⟩
  f_source_of := (zdef c 42).elim fun fd M => ⟨_, fd, M, He.glo_ok X G (zfact c 59)⟩
  f_best_of := (zdef c 43).elim fun fd M => ⟨_, fd, M, He.glo_ok X G (zfact c 60)⟩
  f_stepped := (zdef c 44).elim fun fd M => ⟨_, fd, M, He.glo_ok X G (zfact c 61)⟩
  f_Statistic___getitem__ := zdef c 45
  f_read_out := (zdef c 46).elim fun fd M => ⟨_, fd, M, He.glo_ok X G (zfact c 62)⟩
  f_Statistic___call__ := zdef c 47
  f__law_right := (zdef c 48).elim fun fd M => ⟨_, fd, M, He.glo_ok X G (zfact c 63)⟩
  f__law_pool := (zdef c 49).elim fun fd M => ⟨_, fd, M, He.glo_ok X G (zfact c 64)⟩
  f__law_cell := (zdef c 50).elim fun fd M => ⟨_, fd, M, He.glo_ok X G (zfact c 65)⟩
  f_law := (zdef c 51).elim fun fd M => ⟨_, fd, M, He.glo_ok X G (zfact c 66)⟩
  sp_Greatest___str__ := sp_of (zfact c 67)
  sp_Least___str__ := sp_of (zfact c 68)
  gc_Statistic := He.glo_ok X G (zfact c 69)
  sm_Statistic_read := sm_of (zfact c 70)
  sm_Greatest_read := sm_of (zfact c 71)
  sm_Least_read := sm_of (zfact c 72)
  cls_Greatest := cls_of (zfact c 73)
  prop_Greatest_plain := prop_of (zfact c 74)
  cls_Least := cls_of (zfact c 75)
  prop_Least_plain := prop_of (zfact c 76)
  gc_Greatest := He.glo_ok X G (zfact c 77)
  mk_Greatest := mk_of (zfact c 78)
  mk_Least := mk_of (zfact c 79)
  gc_Least := He.glo_ok X G (zfact c 80)
  noat_Greatest_kinds := noat_of (zfact c 81)
  noat_Least_kinds := noat_of (zfact c 82)
  noat_Greatest_start := noat_of (zfact c 83)
  noat_Least_start := noat_of (zfact c 84)
  noat_Greatest_rules := noat_of (zfact c 85)
  noat_Least_rules := noat_of (zfact c 86)
  noat_Greatest_ends := noat_of (zfact c 87)
  noat_Least_ends := noat_of (zfact c 88)
  con_Greatest_SIDE := con_of (zfact c 89)
  con_Least_SIDE := con_of (zfact c 90)
  sp_Greatest___eq__ := sp_of (zfact c 91)
  sp_Least___eq__ := sp_of (zfact c 92)
  callo_Greatest := callo_of (zfact c 93)
  callo_Least := callo_of (zfact c 94)
  sp_Greatest___getitem__ := sp_of (zfact c 95)
  sp_Least___getitem__ := sp_of (zfact c 96)
  isi := id (zfact c 97)
  eqb := id (zfact c 98)
abbrev hk : PySem.W.Hook := hookZ 6 ex fn
def ob (s : PySem.W.SharedT) : He.AlD := obsZG 6 ex fn (HandSHeadRun.getT s)
theorem ob_eq (s : PySem.W.SharedT) : ob s = hk.obs s.abs := obsZG_eq (HandSHeadRun.getT_eq s)
theorem run (w : World) : HandSHeadRun.RunEq R qv hk ob 20000 names w := by
  intro os
  kernel_rfl
end K08
open PyProof.Rows PySem PySem.W PySem.Calls
set_option maxRecDepth 110000 in
set_option maxHeartbeats 0 in
theorem PySem.Challenge.cw_tallypeaks_k08_texts_written_and_read_holds : PySem.Challenge.rw_tallypeaks_k08_texts_written_and_read.Holds := by
  w_on; o_law
  refine HandSHeadRun.head_any (r := OpenLaw.row PySem.Challenge.rw_tallypeaks_k08_texts_written_and_read) (q := view (OpenLaw.row PySem.Challenge.rw_tallypeaks_k08_texts_written_and_read).prog [78]) (H := K08.hk) (ob := K08.ob) (M := 20000) (loose := K08.names) (d := HandSHeadRun.topDef (OpenLaw.row PySem.Challenge.rw_tallypeaks_k08_texts_written_and_read).prog 78) (kwd := []) K08.ob_eq
    (by kernel_rfl) (fun s => by kernel_rfl) K08.run (by kernel_rfl) (by kernel_rfl) (by kernel_rfl) (by rfl) (by first | assumption | decide +kernel) (by decide +kernel) ⟨rfl, rfl, rfl, rfl, rfl, by decide +kernel⟩ ?hw ?hc
  case hw => w_witness2
  case hc =>
    refine D.walk_D (n := 63) (k := 10) (x := "_law_cells") ⟨rfl, by decide, by decide⟩ (by decide) rfl (by kernel_rfl) ?F
    intro w mg fa h Y G hmg0
    obtain ⟨K, KX, c⟩ := Y
    have hlaw : mg ("law" : PySem.Str) = some (.ref fa) := by
      have e : (HandSHeadRun.topDef (OpenLaw.row PySem.Challenge.rw_tallypeaks_k08_texts_written_and_read).prog 78).name = ("law" : PySem.Str) := by kernel_rfl
      rw [← e]; exact hmg0
    have T : K08.Tx K mg := K08.tx KX G c
    obtain ⟨fd, hb, hF⟩ := D.law_of (P := (PySem.Challenge.rw_tallypeaks_k08_texts_written_and_read).prog) (w := w) (n := 63) T.f_law hlaw (fun base => K08.c_law (base := base) T) (fun M s u => L2.FunD.bindsA (ps := ["_law_cells"]) M (fun _ _ _ _ _ _ us hl => match us, hl with | [_], _ => rfl) s [u] rfl) K08.law_plain
    exact ⟨K, fd, KX, hb, fun base _ _ => hF base⟩
