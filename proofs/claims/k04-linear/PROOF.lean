import PyProof.Rows.All
import Wide.All
import OpenK.AllK
import Wide.FinOn
import HandS.ForMost
import HandS.Walk
import HandS.TupAny
import HandS.TupMul
import HandS.Strs
import HandS.ExcCtx
import HandS.IsInst
import HandS.Zip
import HandS.Style
import PySem.Challenge.RW_plugtrays_k04_whole_linear
set_option Elab.async false
set_option linter.all false
set_option maxRecDepth 100000
set_option maxHeartbeats 4000000
/-! PyT: tuples that are tracked with their object (no dict of their own), so that methods of theirs can be called. -/
namespace Py
open PySem PySem.Spec PyProof.Rows L2 HT
/-- a plain tuple's object -/
def TO (o : Obj) : Prop := o.dict = none ∧ o.cls = .type "tuple"
section
variable {X : Cx}
theorem newT {pins : List (Addr × Obj)} {σ : L2.St} {H : Hp} {s : Shared} {xs : List V} {us : List Value} {t' : Nat} (I : Inv X pins σ H s) (r : Vals xs us) (hz : xs.length ≤ sizeLine) :
    Inv X pins σ (upd H s.heap.objs.size (.frz { cls := .type "tuple", data := .seq us.toArray } (.tup xs))) { s with heap := s.heap.push { cls := .type "tuple", data := .seq us.toArray }, toks := t' } :=
  I.laid (fun b u e => Heap.get?_push_of_some _ e) (Nat.le_refl _) ⟨Heap.get?_push_size _ rfl, hz, us, r, IsTup.new _ _⟩
/-- what is wanted of a new tuple -/
def NewT (H : Hp) (xs : List V) (Q : VK) : Prop := ∀ p o, H p = none → TO o → Q (.ref p) (upd H p (.frz o (.tup xs)))
theorem NewT.use {pins : List (Addr × Obj)} {σ : L2.St} {H : Hp} {s : Shared} {xs : List V} {us : List Value} {Q : VK} {t' : Nat} (q : NewT H xs Q) (I : Inv X pins σ H s) (r : Vals xs us) (hz : xs.length ≤ sizeLine) :
    EP X pins σ Q (.ref s.heap.objs.size) { s with heap := s.heap.push { cls := .type "tuple", data := .seq us.toArray }, toks := t' } :=
  ⟨.ref s.heap.objs.size, _, newT I r hz, rfl, q _ _ (I.hok.fresh (Nat.le_refl _)) ⟨rfl, rfl⟩⟩
theorem pe_tupF {es : List Expr} {t : TA} {pos : Pos} {x1} (h : PA X es t) : PE X (.Tuple es x1 pos) (fun σ H Q => t σ H fun xs H1 => xs.length ≤ sizeLine ∧ NewT H1 xs Q) := by
  refine ⟨fun pins s σ H Q I hq => ?_⟩
  refine wpAny_Tuple_spliced (thn (h.run pos pins s σ H _ I hq) fun us s1 ⟨xs, H1, I1, r, z, q⟩ => ⟨by rw [← r.length]; exact z, ?_⟩)
  exact q.use (t' := s1.toks) I1 r z
def rCatF (K : PySem.W.Frag) : R2 := fun x y H Q => ∃ a b xs ys, x = .ref a ∧ y = .ref b ∧ SqT K H a xs ∧ SqT K H b ys ∧ xs.length + ys.length ≤ sizeLine ∧
  (xs = [] → Q (.ref b) H) ∧ (xs ≠ [] → ys = [] → Q (.ref a) H) ∧ (xs ≠ [] → ys ≠ [] → NewT H (xs ++ ys) Q)
theorem op_catF : OpR X (binaryOp .Add) (rCatF X.K) := by
  intro pins s σ H x y v u Q I rx ry h
  obtain ⟨a, b, xs, ys, rfl, rfl, ha, hb, hz, q0, q1, q2⟩ := h
  cases rx
  cases ry
  obtain ⟨its, r1, p1, _⟩ := I.tuple ha
  obtain ⟨its2, r2, p2, _⟩ := I.tuple hb
  by_cases hx : xs = []
  · subst hx
    cases r1
    exact cat_tup0 p1 p2 ⟨.ref b, H, I, rfl, q0 rfl⟩
  · refine HT.cat_tup p1 p2 (fun z => hx (r1.nil_iff.mp z)) (fun z => ⟨.ref a, H, I, rfl, q1 hx (r2.nil_iff.mp z)⟩) (fun z => ?_) (by rw [← r1.length, ← r2.length]; exact hz)
    exact (q2 hx fun w => z (r2.nil_iff.mpr w)).use (t' := s.toks) I (r1.append r2) (by rw [List.length_append]; exact hz)
def rSlF (K : PySem.W.Frag) : V → Option Int → Option Int → Hp → VK → Prop := fun x lo hi H Q => ∃ a xs, x = .ref a ∧ SqT K H a xs ∧
  (HT.sIx xs.length 0 lo = 0 ∧ HT.sIx xs.length xs.length hi = xs.length → Q (.ref a) H) ∧ (¬ (HT.sIx xs.length 0 lo = 0 ∧ HT.sIx xs.length xs.length hi = xs.length) → NewT H (cutV xs lo hi) Q)
theorem sl_tupF : SlR X (rSlF X.K) := by
  intro pins s σ H x v vl vu lo hi sl Q I rx hs pl pu h
  obtain ⟨a, xs, rfl, hx, q1, q2⟩ := h
  cases rx
  obtain ⟨its, r, ht, hz⟩ := I.tuple hx
  have hlen : its.toArray.size = xs.length := by rw [List.size_toArray]; exact r.length.symm
  refine ⟨"tuple", _, PyProof.Rows.slot_tuple_getitem.lookup, ht.typeIs, ?_⟩
  by_cases hw : HT.sIx xs.length 0 lo = 0 ∧ HT.sIx xs.length xs.length hi = xs.length
  · exact getItem_tuple_whole ht hs pl pu (by rw [hlen]; exact hw) ⟨.ref a, H, I, rfl, q1 hw⟩
  · refine HT.getItem_tuple_cut ht hs pl pu (by rw [hlen]; exact hw) ?_ (by rw [hlen]; exact hz)
    rw [hlen]
    exact (q2 hw).use (t' := s.toks) I ((r.drop (HT.sIx xs.length 0 lo)).take (HT.sIx xs.length xs.length hi - HT.sIx xs.length 0 lo)) (Nat.le_trans (cutV_length xs lo hi) hz)
theorem call_tupleF : CallR X (.type "tuple") (fun xs H Q => ∃ p ys, xs = [.ref p] ∧ ((SqL X.K H p ys ∧ NewT H ys Q) ∨ (SqT X.K H p ys ∧ Q (.ref p) H))) := by
  intro pins s σ H xs us Q I r h
  obtain ⟨p, ys, rfl, h⟩ := h
  obtain ⟨u, rfl, rx⟩ := vals1 r
  cases rx
  rcases h with ⟨hq, q⟩ | ⟨hq, q⟩
  · obtain ⟨its, r', pl, hz⟩ := I.list hq
    have hlen := r'.length
    refine call_tuple_list pl.isList (fun h' kp => ?_) (by simp only [List.size_toArray] <;> omega)
    have I1 : Inv X pins σ H { s with heap := h' } := I.kept (t' := s.toks) kp
    exact q.use (t' := s.toks) I1 r' hz
  · obtain ⟨its, r', pl, hz⟩ := I.tuple hq
    exact call_tuple_same pl ⟨.ref p, H, I, rfl, q⟩
/-- a method of a tuple -/
theorem pe_bmT {o e : Expr} {es : List Expr} {to : TE} {t : TA} {name : Str} {apos cpos : Pos} {id : String} {r : V → List V → Hp → VK → Prop} (pa : PlainAttrs "tuple") (slot : Slot "tuple" name id) (hty : typeOf (.builtin id) = pure (.type "method_descriptor")) (hm : MtR X id r) (ho : PE X o to) (ha : PA X (e :: es) t)
    (hbase : attributeBase o name X.env (eval o X.env) = eval o X.env)
    (hfew : ((backTo cpos (starEach (e :: es) X.env)).all (fun x => !x.1) && (backToKw cpos (keywordEach [] X.env)).all (fun x => x.1.isSome)
      && decide ((e :: es).length + ([] : List Keyword).length + (if ([] : List Keyword).isEmpty then 0 else 1) < 30)) = true)
    (hline : (apos.endLine == cpos.line) = true) (hs : starEach (e :: es) X.env = (false, eval e X.env) :: starEach es X.env) (hplain : (backTo cpos (starEach es X.env)).any (·.1) = false) :
    PE X (.Call (.Attribute o name apos) (e :: es) [] cpos) (fun σ H Q => to σ H fun x H1 => (∃ p ob vs, x = .ref p ∧ H1 p = some (.frz ob (.tup vs)) ∧ TO ob) ∧ t σ H1 fun xs H2 => r x xs H2 Q) := by
  refine ⟨fun pins s σ H Q I h => ?_⟩
  refine wpAny_Call_method_late hbase hfew hline rfl (thn (ho.run pins s σ H _ I h) fun v s1 ⟨x, H1, I1, r1, ⟨p, ob, vs, ex, eo, hto⟩, q1⟩ => ?_)
  subst ex
  obtain rfl : v = Value.ref p := r1
  have hg : s1.heap.get? p = some ob := (I1.hok p _ eo).1
  refine ⟨"tuple", id, pa, slot, hty, ⟨ob, hg, hto.2⟩, fun a e => ?_, ?_⟩
  · cases e
    exact ⟨ob, hg, hto.1⟩
  · have hA := ha.run cpos pins s1 σ H1 _ I1 q1
    rw [hs] at hA ⊢
    refine Calls.callWith_builtin (by show (false || (backTo cpos (starEach es X.env)).any (·.1)) = false; rw [hplain] <;> rfl) (Calls.evalArgs_plain ?_)
    exact thn hA fun us s2 ⟨vs, H2, I2, r2, q2⟩ => hm pins s2 σ H2 (.ref p) vs (.ref p) us Q I2 (show RelV (.ref p) (.ref p) from rfl) r2 q2
def rTIndex (K : PySem.W.Frag) : V → List V → Hp → VK → Prop := fun x xs H Q => ∃ (p : Addr) (ys : List V) (y : V) (j : Nat) (z : V), x = .ref p ∧ xs = [y] ∧ SqT K H p ys ∧ flatV y = true ∧ ys.all flatV = true ∧ ys[j]? = some z ∧ eqV z y = true ∧
  (∀ (m : Nat) (z' : V), m < j → ys[m]? = some z' → eqV z' y = false) ∧ Q (.int (j : Nat)) H
theorem mt_tup_indexF : MtR X "tuple.index" (rTIndex X.K) := by
  intro pins s σ H x xs v us Q I rx rs h
  obtain ⟨p, ys, y, j, z, rfl, rfl, hq, fy, fs, hj', hit, hno, q⟩ := h
  cases rx
  obtain ⟨u, rfl, ru⟩ := vals1 rs
  obtain ⟨its, r, pl, hz⟩ := I.tuple hq
  obtain ⟨⟨cls, dd, dt, sl⟩, ho, hc, n, hd⟩ := pl
  simp only at hc hd
  subst hc
  subst hd
  have hl : its.toArray.size = ys.length := by rw [List.size_toArray, ← r.length]
  have hj : j < its.toArray.size := by rw [hl]; exact (List.getElem?_eq_some_iff.mp hj').1
  have at' : ∀ (m : Nat) (hm : m < its.toArray.size), ∃ z', ys[m]? = some z' ∧ RelV z' its.toArray[m] := fun m hm => by
    have hm' : m < ys.length := by rw [← hl]; exact hm
    obtain ⟨w, hw, hw'⟩ := r.get (i := m) (x := ys[m]) (by simp [hm'])
    refine ⟨ys[m], List.getElem?_eq_getElem hm', ?_⟩
    have e := (List.getElem?_eq_some_iff.mp hw).2
    rw [← e] at hw'
    simpa using hw'
  refine call_meets PySem.F.slot_tuple_index ⟨_, ho, rfl⟩ PySem.F.entry_tuple_index (PySem.F.args_tuple_index_2 _ _) (TI.tuple_indexAt p its.toArray n dd sl u (eqU y) j hj ?_ ?_)
    ⟨ho, fun w hw => mem_eqAt ru fy r fs w (by simpa using hw), ⟨.int (j : Nat), H, I.tok _, ⟨_, rfl⟩, q⟩⟩
  · obtain ⟨z', h1, h2⟩ := at' j hj
    rw [hj'] at h1
    cases h1
    rw [eqU_of h2 (flat_at fs hj')]
    exact hit
  · intro m hm hmj
    obtain ⟨z', h1, h2⟩ := at' m hm
    rw [eqU_of h2 (flat_at fs h1)]
    exact hno m z' hmj h1
end
theorem tuple_mulS (l : Addr) (items : Array Value) (n : Nat) (dd : Option Addr) (sl : Array (Option Value)) (x : Int) (u : Tok) (c0 : (decide (x < -(2 ^ 63)) || decide (x ≥ 2 ^ 63)) = false) (c1 : (items.isEmpty || x == 1) = true) :
    Meets (Builtin.«tuple.__mul__» ⟨[.ref l, .int x u], []⟩) (fun _ R s => s.heap.get? l = some { cls := .type "tuple", dict := dd, data := .seq items n, slots := sl } ∧ R (.ok (.ret (Value.ref l))) s) :=
  .of_wp fun prog w A R s h => by
    obtain ⟨hp, g, d, tk, os⟩ := s
    obtain ⟨hl, h⟩ := h
    have f1 := AutoSeq1.idx_int
    wp_walk using wpAny_loadPart' hl
    repeat (first
      | (refine wpAny_ite_false (decide_eq_false (by rw [c0]; exact Bool.false_ne_true)) ?_; wp_walk using wpAny_loadPart' hl)
      | (refine wpAny_ite_true (decide_eq_true c1) ?_; wp_walk using wpAny_loadPart' hl))
    exact ⟨_, rfl, h⟩
theorem tuple_mul0 (l : Addr) (items : Array Value) (n : Nat) (dd : Option Addr) (sl : Array (Option Value)) (x : Int) (u : Tok) (c0 : (decide (x < -(2 ^ 63)) || decide (x ≥ 2 ^ 63)) = false) (c1 : (items.isEmpty || x == 1) = false) (c2 : (decide (x ≤ 0) || items.isEmpty) = true) :
    Meets (Builtin.«tuple.__mul__» ⟨[.ref l, .int x u], []⟩) (fun _ R s => s.heap.get? l = some { cls := .type "tuple", dict := dd, data := .seq items n, slots := sl } ∧
      R (.ok (.ret (Value.ref s.heap.objs.size))) { s with heap := s.heap.push { cls := Value.type "tuple", data := Data.seq #[] }, toks := s.toks }) :=
  .of_wp fun prog w A R s h => by
    obtain ⟨hp, g, d, tk, os⟩ := s
    obtain ⟨hl, h⟩ := h
    have f1 := AutoSeq1.idx_int
    wp_walk using wpAny_loadPart' hl
    repeat (first
      | (refine wpAny_ite_false (decide_eq_false (by rw [c0]; exact Bool.false_ne_true)) ?_; wp_walk using wpAny_loadPart' hl)
      | (refine wpAny_ite_false (decide_eq_false (by rw [c1]; exact Bool.false_ne_true)) ?_; wp_walk using wpAny_loadPart' hl)
      | (refine wpAny_ite_true (decide_eq_true c2) ?_; wp_walk using wpAny_loadPart' hl)
      | (refine wpAny_ite_false (decide_eq_false (by decide)) ?_; wp_walk using wpAny_loadPart' hl))
    exact ⟨_, rfl, h⟩
def rRepF (K : PySem.W.Frag) : R2 := fun x y H Q => ∃ l k xs, x = .ref l ∧ y = .int k ∧ SqT K H l xs ∧ -(2 ^ 63) ≤ k ∧ k < 2 ^ 63 ∧ xs.length * k.toNat ≤ 1000000 ∧
  ((xs = [] ∨ k = 1) → Q (.ref l) H) ∧ (¬ (xs = [] ∨ k = 1) → NewT H (List.replicate k.toNat xs).flatten Q)
theorem op_repF {X : Cx} : OpR X (binaryOp .Mult) (rRepF X.K) := by
  intro pins s σ H x y v u Q I rx ry h
  obtain ⟨l, k, xs, rfl, rfl, hT, h1, h2, hz, q1, q2⟩ := h
  cases rx
  obtain ⟨t, rfl⟩ := ry
  obtain ⟨its, r, ⟨⟨cls, dd, data, sl⟩, ho, hc, n, hd⟩, hs⟩ := I.tuple hT
  simp only at hc hd
  subst hc hd
  have hle : its.length = xs.length := r.length.symm
  have c0 : (decide (k < -(2 ^ 63)) || decide (k ≥ 2 ^ 63)) = false := by
    rw [decide_eq_false (by omega), decide_eq_false (by omega)] <;> rfl
  have hsz0 : its.toArray.size = xs.length := by rw [List.size_toArray, hle]
  have he : its.toArray.isEmpty = xs.isEmpty := by
    cases r with
    | nil => rfl
    | cons _ _ => rfl
  by_cases hsame : xs = [] ∨ k = 1
  · have c1 : (its.toArray.isEmpty || k == 1) = true := by
      rw [he]
      rcases hsame with e | e
      · rw [e]; rfl
      · rw [e]; simp
    exact wpAny_binaryOp_repeat_ref (T := "tuple") (U := "int") (by decide) ⟨_, ho, rfl⟩ (fun s' => typeIs_int s' k t) noFill_tuple_mul F.fills_int_mul F.slot_int_rmul repeat_tuple F.slot_int_index.lookup
      (call_meets F.slot_int_rmul (typeIs_int s k t) F.entry_int_rmul (F.args_int_rmul_2 _ _) (int_rmul_tuple k t l its.toArray n dd sl)
        ⟨ho, rfl, ⟨_, ho, rfl⟩, call_meets F.slot_tuple_mul ⟨_, ho, rfl⟩ F.entry_tuple_mul (F.args_tuple_mul_2 _ _) (tuple_mulS l its.toArray n dd sl k t c0 c1) ⟨ho, ⟨.ref l, H, I, rfl, q1 hsame⟩⟩⟩)
  · have hne : xs ≠ [] := fun e => hsame (.inl e)
    have hk1 : k ≠ 1 := fun e => hsame (.inr e)
    have hi : its.toArray.isEmpty = false := by
      rw [he]
      cases xs with
      | nil => exact absurd rfl hne
      | cons _ _ => rfl
    have c1 : (its.toArray.isEmpty || k == 1) = false := by
      rw [hi, Bool.false_or]
      exact beq_eq_false_iff_ne.mpr hk1
    by_cases hk : k ≤ 0
    · have c2 : (decide (k ≤ 0) || its.toArray.isEmpty) = true := by
        rw [decide_eq_true hk]; rfl
      have hk0 : k.toNat = 0 := by omega
      have q := q2 hsame
      rw [hk0] at q
      refine wpAny_binaryOp_repeat_ref (T := "tuple") (U := "int") (by decide) ⟨_, ho, rfl⟩ (fun s' => typeIs_int s' k t) noFill_tuple_mul F.fills_int_mul F.slot_int_rmul repeat_tuple F.slot_int_index.lookup
        (call_meets F.slot_int_rmul (typeIs_int s k t) F.entry_int_rmul (F.args_int_rmul_2 _ _) (int_rmul_tuple k t l its.toArray n dd sl)
          ⟨ho, rfl, ⟨_, ho, rfl⟩, call_meets F.slot_tuple_mul ⟨_, ho, rfl⟩ F.entry_tuple_mul (F.args_tuple_mul_2 _ _) (tuple_mul0 l its.toArray n dd sl k t c0 c1 c2) ⟨ho, ?_⟩⟩)
      exact NewT.use (us := []) (xs := []) (t' := s.toks) q I .nil (Nat.zero_le _)
    · have hx1 : 1 ≤ xs.length := by
        cases xs with
        | nil => exact absurd rfl hne
        | cons _ _ => simp
      have hm : ((its.toArray.size : Nat) : Int) * k ≤ 1000000 := by
        rw [hsz0]
        have e : ((k.toNat : Nat) : Int) = k := Int.toNat_of_nonneg (by omega)
        have e2 : ((xs.length : Nat) : Int) * k = ((xs.length * k.toNat : Nat) : Int) := by rw [Int.natCast_mul, e]
        rw [e2]
        omega
      have flen : (List.replicate k.toNat its).flatten.length ≤ sizeLine := by
        rw [PyProof.Rows.lm_len_rep_flat, hle, sizeLine_eq, Nat.mul_comm]
        omega
      have c2 : (decide (k ≤ 0) || its.toArray.isEmpty) = false := by
        rw [hi, Bool.or_false]
        exact decide_eq_false hk
      have c4 : Builtin.Tuple.tupleTooMany (((its.toArray.size : Nat) : Int) * k) = false := by
        unfold Builtin.Tuple.tupleTooMany
        rw [sizeLine_eq]
        exact decide_eq_false (by omega)
      refine wpAny_binaryOp_repeat_ref (T := "tuple") (U := "int") (by decide) ⟨_, ho, rfl⟩ (fun s' => typeIs_int s' k t) noFill_tuple_mul F.fills_int_mul F.slot_int_rmul repeat_tuple F.slot_int_index.lookup
        (call_meets F.slot_int_rmul (typeIs_int s k t) F.entry_int_rmul (F.args_int_rmul_2 _ _) (int_rmul_tuple k t l its.toArray n dd sl)
          ⟨ho, rfl, ⟨_, ho, rfl⟩, call_meets F.slot_tuple_mul ⟨_, ho, rfl⟩ F.entry_tuple_mul (F.args_tuple_mul_2 _ _) (tuple_mulW l its.toArray n dd sl k t c0 c1 c2 (by omega) c4 (by rw [size_rep, List.size_toArray]; exact flen)) ⟨ho, ?_⟩⟩)
      rw [size_rep]
      exact (q2 hsame).use (t' := s.toks) I (r.rep k.toNat) (by rw [PyProof.Rows.lm_len_rep_flat, sizeLine_eq, Nat.mul_comm]; omega)
end Py

/-! PyA: own data, own syntax without places, an evaluator with ownership. -/
namespace Py
open PySem

inductive D where
  | non | bl (b : Bool) | int (i : Int) | str (s : Str)
  | tup (ds : List D) | lst (ds : List D) | dct (kvs : List (Sum Int Str × D))
  | ins (c : Str) (fs : List (Str × D)) | exc (c : Str) | gl (x : Str)
  /-- the script: a list of ints that nobody writes at -/
  | scr (ns : List Int)
  deriving Inhabited

/-- who may write: fz nobody (it may be shared); un c: this list or dict is held here alone, each item as c says; tu: a tuple's items; rc: an instance's fields -/
inductive Own where
  | fz | un (c : Own) | nl | cn (o r : Own) | tu (c : Own) | rc (c : Own)
  deriving DecidableEq, Inhabited

abbrev Val := D × Own
abbrev Fr := List (Option Val)

inductive Out (α : Type) where
  | ok (a : α) (σ : Fr) | exn (c : Str) (σ : Fr) | bad
inductive COut where
  | ret (v : Val) (io : List Val) | exn (c : Str) (io : List Val) | bad

abbrev M (α : Type) := Fr → Out α
def M.pure {α : Type} (a : α) : M α := fun σ => .ok a σ
def M.bind {α β : Type} (m : M α) (f : α → M β) : M β := fun σ => match m σ with
  | .ok a σ' => f a σ'
  | .exn c σ' => .exn c σ'
  | .bad => .bad
def M.bad {α : Type} : M α := fun _ => .bad
def M.of {α : Type} (o : Option α) : M α := fun σ => match o with
  | some a => .ok a σ
  | none => .bad

/-! ### equality, order, truth of data -/
/-- a list of ints and a list -/
def eqL : List Int → List D → Bool
  | [], [] => true
  | a :: as, .int b :: bs => a == b && eqL as bs
  | a :: as, .bl b :: bs => a == (if b then 1 else 0) && eqL as bs
  | _, _ => false
def eqR : List D → List Int → Bool
  | [], [] => true
  | .int a :: as, b :: bs => a == b && eqR as bs
  | .bl a :: as, b :: bs => (if a then 1 else 0) == b && eqR as bs
  | _, _ => false
mutual
def D.eqv : D → D → Bool
  | .non, .non => true
  | .bl a, .bl b => a == b
  | .bl a, .int b => (if a then 1 else 0) == b
  | .int a, .bl b => a == (if b then 1 else 0)
  | .int a, .int b => a == b
  | .str a, .str b => a == b
  | .tup a, .tup b => D.eqvs a b
  | .lst a, .lst b => D.eqvs a b
  | .scr a, .scr b => a == b
  | .scr a, .lst b => eqL a b
  | .lst a, .scr b => eqR a b
  | _, _ => false
def D.eqvs : List D → List D → Bool
  | [], [] => true
  | a :: as, b :: bs => D.eqv a b && D.eqvs as bs
  | _, _ => false
end
mutual
/-- none, bools, ints, texts, tuples, lists alone -/
def D.plain : D → Bool
  | .non => true | .bl _ => true | .int _ => true | .str s => s.cps.all (· < 0x110000)
  | .tup ds => D.plains ds | .lst ds => D.plains ds | .scr _ => true | _ => false
def D.plains : List D → Bool
  | [] => true
  | d :: ds => d.plain && D.plains ds
end
mutual
def D.depth : D → Nat
  | .tup ds => D.depths ds + 1 | .lst ds => D.depths ds + 1 | .scr _ => 1 | _ => 0
def D.depths : List D → Nat
  | [] => 0
  | d :: ds => max d.depth (D.depths ds)
end
/-- == where the model tells it -/
def D.eq? (a b : D) : Option Bool := if a.plain && b.plain && decide (min a.depth b.depth ≤ 60) then some (a.eqv b) else none
/-- none, bools, ints, texts -/
def D.flat : D → Bool
  | .non => true | .bl _ => true | .int _ => true | .str _ => true | _ => false

/-! ### places of sequences -/
def ixN (n : Nat) (i : Int) : Option Nat := if 0 ≤ i then (if i < n then some i.toNat else none) else if -(n : Int) ≤ i then some (i + n).toNat else none
def atI {α : Type} (xs : List α) (i : Int) : Option α := (ixN xs.length i).bind fun j => xs[j]?
def sIx (n d : Nat) : Option Int → Nat
  | none => d
  | some v => if v < 0 then (v + (n : Int)).toNat else min v.toNat n
def cut {α : Type} (xs : List α) (lo hi : Option Int) : List α := (xs.drop (sIx xs.length 0 lo)).take (sIx xs.length xs.length hi - sIx xs.length 0 lo)
/-- the longest list that is let -/
def big : Nat := 1000000
def tight (i : Int) : Bool := decide (-(2 ^ 64) < i) && decide (i < 2 ^ 64)

inductive Prim where
  | add | sub | mul | mod | fdiv | pow | neg
  | lt | le | gt | ge | eq | ne | in_ | notIn | isNone | notNone
  | idx | slLo | slHi | sl2 | rev
  | len | tuple | list | sum | all_ | any_ | max2 | min2 | max1 | min1 | abs | int_ | str_
  | isInt | isBool | isTuple | isStr | isList
  | dget2 | tindex | lcount | lindex
  | sortedSet | sorted | lenSet | join | split | replace
  deriving DecidableEq, Repr

/-- a primitive over data (its list operands have frozen items): the answer; a new list is its caller's own -/
def fzv (d : D) : Option Val := some (d, .fz)
def newl (ds : List D) : Option Val := some (.lst ds, .un .fz)
def Prim.ints (f : Int → Int → D) : List D → Option Val
  | [.int a, .int b] => fzv (f a b)
  | _ => none
def D.bools? : List D → Option (List Bool)
  | [] => some []
  | .bl b :: r => (D.bools? r).map (b :: ·)
  | _ => none
def D.ints? : List D → Option (List Int)
  | [] => some []
  | .int b :: r => (D.ints? r).map (b :: ·)
  | _ => none
def maxL : Int → List Int → Int
  | m, [] => m
  | m, x :: r => maxL (if x > m then x else m) r
def minL : Int → List Int → Int
  | m, [] => m
  | m, x :: r => minL (if x < m then x else m) r
def lookK (k : Sum Int Str) : List (Sum Int Str × D) → Option D
  | [] => none
  | (j, d) :: r => if j = k then some d else lookK k r
def D.key? : D → Option (Sum Int Str)
  | .int i => some (.inl i)
  | .str s => some (.inr s)
  | _ => none
/-- the first place of what == x -/
def findEq (x : D) : List D → Nat → Option Nat
  | [], _ => none
  | d :: r, n => if d.eqv x then some n else findEq x r (n + 1)

def p_add : List D → Option Val
  | [.int a, .int b] => fzv (.int (a + b))
  | [.tup a, .tup b] => if a.length + b.length ≤ big then fzv (.tup (a ++ b)) else none
  | [.lst a, .lst b] => if a.length + b.length ≤ big then newl (a ++ b) else none
  | [.str a, .str b] => if a.length + b.length ≤ big then fzv (.str (a ++ b)) else none
  | _ => none
def p_sub : List D → Option Val
  | [.int a, .int b] => fzv (.int (a - b))
  | _ => none
def p_mul : List D → Option Val
  | [.int a, .int b] => if tight a || tight b then fzv (.int (a * b)) else none
  | [.lst a, .int k] => if decide (a.length * k.toNat ≤ big) && decide (-1000000 ≤ k) && decide (k ≤ 1000000) then newl (List.replicate k.toNat a).flatten else none
  | [.tup a, .int k] => if decide (a.length * k.toNat ≤ big) && decide (-1000000 ≤ k) && decide (k ≤ 1000000) then fzv (.tup (List.replicate k.toNat a).flatten) else none
  | _ => none
def p_mod : List D → Option Val
  | [.int a, .int b] => if 0 < b then fzv (.int (a % b)) else none
  | _ => none
def p_fdiv : List D → Option Val
  | [.int a, .int b] => if 0 < b ∧ b < 1073741824 then fzv (.int (a / b)) else none
  | _ => none
def p_pow : List D → Option Val
  | [.int a, .int b] => if 0 ≤ b ∧ b ≤ 1000000 ∧ a.natAbs < 2 ^ 64 then fzv (.int (a ^ b.toNat)) else none
  | _ => none
def p_neg : List D → Option Val
  | [.int a] => fzv (.int (-a))
  | _ => none
def p_lt (ds : List D) : Option Val := Prim.ints (fun a b => .bl (decide (a < b))) ds
def p_le (ds : List D) : Option Val := Prim.ints (fun a b => .bl (decide (a ≤ b))) ds
def p_gt (ds : List D) : Option Val := Prim.ints (fun a b => .bl (decide (b < a))) ds
def p_ge (ds : List D) : Option Val := Prim.ints (fun a b => .bl (decide (b ≤ a))) ds
def p_eq : List D → Option Val
  | [a, b] => (a.eq? b).map fun c => (.bl c, .fz)
  | _ => none
def p_ne : List D → Option Val
  | [a, b] => (a.eq? b).map fun c => (.bl (!c), .fz)
  | _ => none
def p_in_ : List D → Option Val
  | [x, .tup ds] => if x.flat && ds.all D.flat then fzv (.bl (ds.any fun d => d.eqv x)) else none
  | [x, .lst ds] => if x.flat && ds.all D.flat then fzv (.bl (ds.any fun d => d.eqv x)) else none
  | _ => none
def p_notIn : List D → Option Val
  | [x, .tup ds] => if x.flat && ds.all D.flat then fzv (.bl (!ds.any fun d => d.eqv x)) else none
  | [x, .lst ds] => if x.flat && ds.all D.flat then fzv (.bl (!ds.any fun d => d.eqv x)) else none
  | _ => none
def p_isNone : List D → Option Val
  | [.non] => fzv (.bl true)
  | [_] => fzv (.bl false)
  | _ => none
def p_notNone : List D → Option Val
  | [.non] => fzv (.bl false)
  | [_] => fzv (.bl true)
  | _ => none
def p_idx : List D → Option Val
  | [.scr ns, .int i] => (atI ns i).map fun d => (.int d, .fz)
  | [.tup ds, .int i] => (atI ds i).map fun d => (d, .fz)
  | [.lst ds, .int i] => (atI ds i).map fun d => (d, .fz)
  | _ => none
def p_slLo : List D → Option Val
  | [.tup ds, .int i] => fzv (.tup (cut ds (some i) none))
  | [.lst ds, .int i] => newl (cut ds (some i) none)
  | _ => none
def p_slHi : List D → Option Val
  | [.tup ds, .int j] => fzv (.tup (cut ds none (some j)))
  | [.lst ds, .int j] => newl (cut ds none (some j))
  | _ => none
def p_sl2 : List D → Option Val
  | [.tup ds, .int i, .int j] => fzv (.tup (cut ds (some i) (some j)))
  | [.lst ds, .int i, .int j] => newl (cut ds (some i) (some j))
  | _ => none
def p_len : List D → Option Val
  | [.scr ns] => fzv (.int ns.length)
  | [.tup ds] => fzv (.int ds.length)
  | [.lst ds] => fzv (.int ds.length)
  | _ => none
def p_tuple : List D → Option Val
  | [.tup ds] => fzv (.tup ds)
  | [.lst ds] => fzv (.tup ds)
  | _ => none
def p_list : List D → Option Val
  | [.tup ds] => newl ds
  | [.lst ds] => newl ds
  | _ => none
def p_sum : List D → Option Val
  | [.lst ds] => (D.ints? ds).map fun ns => (.int ns.sum, .fz)
  | _ => none
def p_all_ : List D → Option Val
  | [.lst ds] => (D.bools? ds).map fun bs => (.bl (bs.all id), .fz)
  | _ => none
def p_any_ : List D → Option Val
  | [.lst ds] => (D.bools? ds).map fun bs => (.bl (bs.any id), .fz)
  | _ => none
def p_max2 : List D → Option Val
  | [.int a, .int b] => fzv (.int (if b > a then b else a))
  | _ => none
def p_min2 : List D → Option Val
  | [.int a, .int b] => fzv (.int (if b < a then b else a))
  | _ => none
def p_max1 : List D → Option Val
  | [.lst ds] => match D.ints? ds with
    | some (x :: r) => fzv (.int (maxL x r))
    | _ => none
  | _ => none
def p_min1 : List D → Option Val
  | [.lst ds] => match D.ints? ds with
    | some (x :: r) => fzv (.int (minL x r))
    | _ => none
  | _ => none
def p_abs : List D → Option Val
  | [.int a] => fzv (.int (if a < 0 then -a else a))
  | _ => none
def p_int_ : List D → Option Val
  | [.int a] => fzv (.int a)
  | [.bl b] => fzv (.int (if b then 1 else 0))
  | _ => none
def p_isInt : List D → Option Val
  | [.int _] => fzv (.bl true)
  | [.bl _] => fzv (.bl true)
  | [.scr _] => none
  | [d] => if d.plain then fzv (.bl false) else none
  | _ => none
def p_isBool : List D → Option Val
  | [.bl _] => fzv (.bl true)
  | [.scr _] => none
  | [d] => if d.plain then fzv (.bl false) else none
  | _ => none
def p_isTuple : List D → Option Val
  | [.tup _] => fzv (.bl true)
  | [.scr _] => none
  | [d] => if d.plain then fzv (.bl false) else none
  | _ => none
def p_isStr : List D → Option Val
  | [.str _] => fzv (.bl true)
  | [.scr _] => none
  | [d] => if d.plain then fzv (.bl false) else none
  | _ => none
def p_isList : List D → Option Val
  | [.lst _] => fzv (.bl true)
  | [.scr _] => none
  | [d] => if d.plain then fzv (.bl false) else none
  | _ => none
def D.still : D → Bool
  | .lst _ => false | .dct _ => false | .ins _ _ => false | _ => true
def p_dget2 : List D → Option Val
  | [.dct kvs, k, x] => if x.still then k.key?.map fun k => ((lookK k kvs).getD x, .fz) else none
  | _ => none
def p_tindex : List D → Option Val
  | [.tup ds, x] => if x.flat && ds.all D.flat then (findEq x ds 0).map fun n => (.int n, .fz) else none
  | _ => none
def p_lindex : List D → Option Val
  | [.lst ds, x] => if x.flat && ds.all D.flat then (findEq x ds 0).map fun n => (.int n, .fz) else none
  | _ => none
def Prim.run : Prim → List D → Option Val
  | .add => p_add
  | .sub => p_sub
  | .mul => p_mul
  | .mod => p_mod
  | .fdiv => p_fdiv
  | .pow => p_pow
  | .neg => p_neg
  | .lt => p_lt
  | .le => p_le
  | .gt => p_gt
  | .ge => p_ge
  | .eq => p_eq
  | .ne => p_ne
  | .in_ => p_in_
  | .notIn => p_notIn
  | .isNone => p_isNone
  | .notNone => p_notNone
  | .idx => p_idx
  | .slLo => p_slLo
  | .slHi => p_slHi
  | .sl2 => p_sl2
  | .rev => fun _ => none
  | .len => p_len
  | .tuple => p_tuple
  | .list => p_list
  | .sum => p_sum
  | .all_ => p_all_
  | .any_ => p_any_
  | .max2 => p_max2
  | .min2 => p_min2
  | .max1 => p_max1
  | .min1 => p_min1
  | .abs => p_abs
  | .int_ => p_int_
  | .str_ => fun _ => none
  | .isInt => p_isInt
  | .isBool => p_isBool
  | .isTuple => p_isTuple
  | .isStr => p_isStr
  | .isList => p_isList
  | .dget2 => p_dget2
  | .tindex => p_tindex
  | .lcount => fun _ => none
  | .lindex => p_lindex
  | .sortedSet => fun _ => none
  | .sorted => fun _ => none
  | .lenSet => fun _ => none
  | .join => fun _ => none
  | .split => fun _ => none
  | .replace => fun _ => none

/-! ### the syntax -/
inductive Pat where
  | nm (i : Nat) | nl | cn (p r : Pat)
mutual
inductive Ex where
  | cst (d : D) | glb (x : Str) | var (i : Nat) | mov (i : Nat)
  | tup (es : Exs) | lst (c : Own) (es : Exs)
  | op (p : Prim) (es : Exs)
  | ife (t a b : Ex) | and_ (a b : Ex) | or_ (a b : Ex) | not_ (a : Ex)
  | chain (p q : Prim) (a b c : Ex)
  | mth (p : Prim) (o : Ex) (es : Exs)
  | call (f : Str) (es : Exs)
  | comp (c : Own) (elt : Ex) (own : List Nat) (p : Pat) (it : Itr) (cond : Option_)
  | dsp (ks : List Str) (vs : Exs)
inductive Exs where
  | nil | cons (e : Ex) (es : Exs)
inductive Itr where
  | seq (e : Ex) | rng1 (e : Ex) | rng2 (a b : Ex) | zip (a b : Ex) | enum (a : Ex)
inductive Option_ where
  | none | some (e : Ex)
end
mutual
inductive Sm where
  | asg (p : Pat) (e : Ex)
  | par (is : List Nat) (es : Exs)
  | sub (i : Nat) (k e : Ex)
  | app (i : Nat) (e : Ex) | ext (i : Nat) (e : Ex)
  | ex (e : Ex) | ret (e : Ex) | retN
  | iff (t : Ex) (a b : Sms)
  | for_ (p : Pat) (it : Itr) (body : Sms)
  | whl (t : Ex) (body : Sms)
  | rse (c : Str) (m : Str)
  | pss | brk | cnt
inductive Sms where
  | nil | cons (s : Sm) (r : Sms)
end
/-- a def: which parameters are written (the caller's own), the slots besides the parameters, the body -/
structure Fd where
  io : List Bool
  more : Nat
  body : Sms

/-! ### the evaluator -/
/-- an operand: a slot (read when the operation is done), or a value -/
inductive AV where
  | pl (i : Nat) | vl (v : Val)
def Own.simple : Own → Bool
  | .fz => true | .un .fz => true | _ => false
def slot (σ : Fr) (i : Nat) : Option Val := (σ[i]?).bind id
def AV.rd (σ : Fr) : AV → Option D
  | .pl i => match slot σ i with
    | some (d, o) => if o.simple then some d else none
    | none => none
  | .vl (d, o) => if o.simple then some d else none
def rds (σ : Fr) : List AV → Option (List D)
  | [] => some []
  | a :: r => match a.rd σ, rds σ r with
    | some d, some ds => some (d :: ds)
    | _, _ => none
/-- a name read: what it holds is shared from then on -/
def getV (i : Nat) : M Val := fun σ => match slot σ i with
  | some (d, .fz) => .ok (d, .fz) σ
  | some (d, _) => .ok (d, .fz) (σ.set i (some (d, .fz)))
  | none => .bad
/-- a name read for the last time -/
def movV (i : Nat) : M Val := fun σ => match slot σ i with
  | some (d, .fz) => .ok (d, .fz) σ
  | some (d, o) => .ok (d, o) (σ.set i none)
  | none => .bad
/-- the arguments of a call: what is written is taken out of its slot, all else is shared -/
def frzA : AV → M Val
  | .pl i => getV i
  | .vl (d, _) => M.pure (d, .fz)
def takeA : AV → M Val
  | .pl i => fun σ => match slot σ i with
    | some v => .ok v (σ.set i none)
    | none => .bad
  | .vl v => M.pure v
def passA : List Bool → List AV → M (List Val)
  | [], [] => M.pure []
  | true :: bs, a :: as => (takeA a).bind fun v => (passA bs as).bind fun vs => M.pure (v :: vs)
  | false :: bs, a :: as => (frzA a).bind fun v => (passA bs as).bind fun vs => M.pure (v :: vs)
  | _, _ => M.bad
/-- behind the call they are put back -/
def backA : List Bool → List AV → List Val → Fr → Option Fr
  | [], [], [], σ => some σ
  | true :: bs, .pl i :: as, v :: vs, σ => backA bs as vs (σ.set i (some v))
  | true :: bs, .vl _ :: as, _ :: vs, σ => backA bs as vs σ
  | false :: bs, _ :: as, vs, σ => backA bs as vs σ
  | _, _, _, _ => none
/-- a target: a shared value, or a tuple's items each as it is held -/
def asgP : Pat → Val → Fr → Option Fr
  | .nm i, v, σ => if i < σ.length then some (σ.set i (some v)) else none
  | .nl, (.tup [], _), σ => some σ
  | .cn p r, (.tup (d :: ds), .fz), σ => (asgP p (d, .fz) σ).bind fun σ' => asgP r (.tup ds, .fz) σ'
  | .cn p r, (.tup (d :: ds), .tu (.cn o c)), σ => (asgP p (d, o) σ).bind fun σ' => asgP r (.tup ds, .tu c) σ'
  | _, _, _ => none
def setAll : List Nat → List Val → Fr → Option Fr
  | [], [], σ => some σ
  | i :: is, v :: vs, σ => if i < σ.length then setAll is vs (σ.set i (some v)) else none
  | _, _, _ => none
/-- the own slots of a comprehension, forgotten (they hold nothing of one's own) -/
def wipeF : List Nat → Fr → Option Fr
  | [], σ => some σ
  | i :: is, σ => match σ[i]? with
    | some none => wipeF is σ
    | some (some (_, .fz)) => wipeF is (σ.set i none)
    | _ => none
def putBack (σ0 : Fr) : List Nat → Fr → Fr
  | [], σ => σ
  | i :: is, σ => putBack σ0 is (σ.set i ((σ0[i]?).bind id))
/-- the ownership of a tuple's items -/
def ownT : List Val → Own
  | [] => .nl
  | (_, o) :: r => .cn o (ownT r)
def tupV (vs : List Val) : Val := if vs.all (fun v => decide (v.2 = .fz)) then (.tup (vs.map (·.1)), .fz) else (.tup (vs.map (·.1)), .tu (ownT vs))
/-- an item of a list whose items are held as c -/
def itemV (c : Own) (v : Val) : Option D := if c = .fz then some v.1 else if v.2 = c then some v.1 else none
def lstV (c : Own) : List Val → Option (List D)
  | [] => some []
  | v :: r => match itemV c v, lstV c r with
    | some d, some ds => some (d :: ds)
    | _, _ => none

structure Cfg where
  cl : Str → List Val → COut
  io : Str → Option (List Bool)
  gc : Str → Option D
  fuel : Nat

def boolV : Val → Option Bool
  | (.bl b, _) => some b
  | _ => none
def callM (C : Cfg) (f : Str) (as : List AV) : M Val := fun σ => match C.io f with
  | none => .bad
  | some bs => match passA bs as σ with
    | .bad => .bad
    | .exn c σ1 => .exn c σ1
    | .ok vs σ1 => match C.cl f vs with
      | .bad => .bad
      | .ret v io => match backA bs as io σ1 with
        | some σ2 => .ok v σ2
        | none => .bad
      | .exn c io => match backA bs as io σ1 with
        | some σ2 => .exn c σ2
        | none => .bad
/-- an operand: a name is read when the operation is done -/
def opdM (e : Ex) (m : M Val) : M AV := match e with
  | .var i => fun σ => match slot σ i with
    | none => .bad
    | some _ => .ok (.pl i) σ
  | _ => m.bind fun v => M.pure (.vl v)
def sv (v : Val) : Option D := if v.2.simple then some v.1 else none
/-- a p b q c -/
def chainM (p q : Prim) (a b c : M Val) : M Val := a.bind fun x => b.bind fun y => match sv x, sv y with
  | some dx, some dy => match p.run [dx, dy] with
    | some (.bl true, .fz) => c.bind fun z => M.of ((sv z).bind fun dz => q.run [dy, dz])
    | some (.bl false, .fz) => M.pure (.bl false, .fz)
    | _ => M.bad
  | _, _ => M.bad
/-- what a method is called on -/
def D.kind : D → Nat
  | .str _ => 1 | .tup _ => 2 | .lst _ => 3 | .dct _ => 4 | _ => 0
def Prim.kind : Prim → Nat
  | .dget2 => 4 | .tindex => 2 | .lindex => 3 | .lcount => 3 | .join => 1 | .split => 1 | .replace => 1 | _ => 9
def mthM (p : Prim) (o : M AV) (args : M (List AV)) : M Val := o.bind fun a σ => match a.rd σ with
  | some d => if d.kind = p.kind then (args.bind fun as σ' => match rds σ' (a :: as) with
    | some ds => M.of (p.run ds) σ'
    | none => .bad) σ else .bad
  | none => .bad
/-- slots forgotten -/
def clr : List Nat → Fr → Fr
  | [], σ => σ
  | i :: is, σ => clr is (σ.set i none)
/-- the turns of a comprehension -/
def compL (cond : M Bool) (elt : M Val) (c : Own) (own : List Nat) (p : Pat) : List D → M (List D)
  | [], σ => .ok [] (clr own σ)
  | d :: r, σ => match asgP p (d, .fz) (clr own σ) with
    | none => .bad
    | some σ1 => match cond σ1 with
      | .bad => .bad
      | .exn _ _ => .bad
      | .ok false σ2 => compL cond elt c own p r σ2
      | .ok true σ2 => match elt σ2 with
        | .bad => .bad
        | .exn _ _ => .bad
        | .ok v σ3 => match itemV c v with
          | none => .bad
          | some x => match compL cond elt c own p r σ3 with
            | .ok xs σ4 => .ok (x :: xs) σ4
            | _ => .bad
def compM (m : M (List D)) (cond : M Bool) (elt : M Val) (c : Own) (own : List Nat) (p : Pat) : M Val := m.bind fun ds σ => match wipeF own σ with
  | none => .bad
  | some σ1 => match compL cond elt c own p ds σ1 with
    | .ok xs σ2 => .ok (.lst xs, .un c) (putBack σ own σ2)
    | _ => .bad
def seqOf : Val → Option (List D)
  | (.tup ds, .fz) => some ds
  | (.lst ds, .fz) => some ds
  | (.lst ds, .un .fz) => some ds
  | _ => none
def lstOf : Val → Option (List D)
  | (.lst ds, .fz) => some ds
  | (.lst ds, .un .fz) => some ds
  | _ => none
/-- a slot holds a list -/
def isL (i : Nat) : M Unit := fun σ => match slot σ i with
  | some (.lst _, _) => .ok () σ
  | _ => .bad
def intOf : Val → Option Int
  | (.int i, _) => some i
  | _ => none
def rangeOk (i : Int) : Bool := decide (-(2 ^ 62) ≤ i) && decide (i < 2 ^ 62)
def rangeD (lo hi : Int) : List D := (List.range (hi - lo).toNat).map fun k => .int (lo + (k : Nat))
def enumD : Nat → List D → List D
  | _, [] => []
  | n, d :: r => .tup [.int (n : Nat), d] :: enumD (n + 1) r
def zipD : List D → List D → List D
  | a :: as, b :: bs => .tup [a, b] :: zipD as bs
  | _, _ => []
def mergeD : List (Sum Int Str × D) → List (Sum Int Str × D) → List (Sum Int Str × D)
  | acc, [] => acc
  | acc, (k, d) :: r => mergeD (if (lookK k acc).isSome then acc.map (fun p => if p.1 = k then (p.1, d) else p) else acc ++ [(k, d)]) r

mutual
def evE (C : Cfg) : Ex → M Val
  | .cst d => M.pure (d, .fz)
  | .glb x => M.of ((C.gc x).map fun d => (d, .fz))
  | .var i => getV i
  | .mov i => movV i
  | .tup es => (evL C es).bind fun vs => if vs.length ≤ big then M.pure (tupV vs) else M.bad
  | .lst c es => (evL C es).bind fun vs => M.of (if vs.length ≤ big then (lstV c vs).map fun ds => (.lst ds, .un c) else none)
  | .op p es => (evA C es).bind fun as σ => match rds σ as with
    | some ds => M.of (p.run ds) σ
    | none => .bad
  | .ife t a b => (evT C t).bind fun c => if c then evE C a else evE C b
  | .and_ a b => (evE C a).bind fun v => match boolV v with
    | some true => evE C b
    | some false => M.pure (.bl false, .fz)
    | none => M.bad
  | .or_ a b => (evE C a).bind fun v => match boolV v with
    | some true => M.pure (.bl true, .fz)
    | some false => evE C b
    | none => M.bad
  | .not_ a => (evE C a).bind fun v => match boolV v with
    | some c => M.pure (.bl (!c), .fz)
    | none => M.bad
  | .chain p q a b c => chainM p q (evE C a) (evE C b) (evE C c)
  | .mth p o es => mthM p (opdM o (evE C o)) (evA C es)
  | .call f es => (evA C es).bind fun as => callM C f as
  | .comp c elt own p it cond => compM (evI C it) (evC C cond) (evE C elt) c own p
  | .dsp ks vs => (evL C vs).bind fun xs => M.of (if ks.length = xs.length ∧ ks.length ≤ 15 then some (.dct (mergeD [] ((ks.map Sum.inr).zip (xs.map (·.1)))), .un .fz) else none)
def evT (C : Cfg) : Ex → M Bool
  | .and_ a b => (evT C a).bind fun c => if c then evT C b else M.pure false
  | .or_ a b => (evT C a).bind fun c => if c then M.pure true else evT C b
  | .not_ a => (evT C a).bind fun c => M.pure (!c)
  | .ife t a b => (evT C t).bind fun c => if c then evT C a else evT C b
  | .cst d => M.of (boolV (d, .fz))
  | .glb _ => M.bad
  | .var i => (getV i).bind fun v => M.of (boolV v)
  | .mov _ => M.bad
  | .tup _ => M.bad
  | .lst _ _ => M.bad
  | .op p es => ((evA C es).bind fun as σ => match rds σ as with
    | some ds => M.of (p.run ds) σ
    | none => .bad).bind fun v => M.of (boolV v)
  | .chain p q a b c => (chainM p q (evE C a) (evE C b) (evE C c)).bind fun v => M.of (boolV v)
  | .mth p o es => (mthM p (opdM o (evE C o)) (evA C es)).bind fun v => M.of (boolV v)
  | .call f es => ((evA C es).bind fun as => callM C f as).bind fun v => M.of (boolV v)
  | .comp _ _ _ _ _ _ => M.bad
  | .dsp _ _ => M.bad
def evC (C : Cfg) : Option_ → M Bool
  | .none => M.pure true
  | .some e => evT C e
/-- values, one behind the other -/
def evL (C : Cfg) : Exs → M (List Val)
  | .nil => M.pure []
  | .cons e es => (evE C e).bind fun v => (evL C es).bind fun vs => M.pure (v :: vs)
/-- operands -/
def evA (C : Cfg) : Exs → M (List AV)
  | .nil => M.pure []
  | .cons e es => (opdM e (evE C e)).bind fun a => (evA C es).bind fun as => M.pure (a :: as)
def evI (C : Cfg) : Itr → M (List D)
  | .seq e => (evE C e).bind fun v => M.of (seqOf v)
  | .rng1 e => (evE C e).bind fun v => M.of (match intOf v with
    | some j => if rangeOk j && decide (j ≤ 1000000) then some (rangeD 0 j) else none
    | none => none)
  | .rng2 a b => (evE C a).bind fun u => (evE C b).bind fun v => M.of (match intOf u, intOf v with
    | some i, some j => if rangeOk i && rangeOk j && decide (j - i ≤ 1000000) then some (rangeD i j) else none
    | _, _ => none)
  | .zip a b => (evE C a).bind fun u => (evE C b).bind fun v => M.of (match seqOf u, seqOf v with
    | some xs, some ys => if u.1.kind = v.1.kind ∧ xs.length ≤ big then some (zipD xs ys) else none
    | _, _ => none)
  | .enum a => (evE C a).bind fun u => M.of ((seqOf u).bind fun xs => if xs.length ≤ big then some (enumD 0 xs) else none)
end

inductive Flow where
  | next | ret (v : Val) | brk | cnt
/-- a for's turns -/
def forL (body : M Flow) (p : Pat) : List D → M Flow
  | [], σ => .ok .next σ
  | d :: r, σ => match asgP p (d, .fz) σ with
    | none => .bad
    | some σ1 => match body σ1 with
      | .bad => .bad
      | .exn c σ2 => .exn c σ2
      | .ok .next σ2 => forL body p r σ2
      | .ok .cnt σ2 => forL body p r σ2
      | .ok .brk σ2 => .ok .next σ2
      | .ok (.ret v) σ2 => .ok (.ret v) σ2
def whileL (t : M Bool) (body : M Flow) : Nat → M Flow
  | 0, _ => .bad
  | n + 1, σ => match t σ with
    | .bad => .bad
    | .exn c σ1 => .exn c σ1
    | .ok false σ1 => .ok .next σ1
    | .ok true σ1 => match body σ1 with
      | .bad => .bad
      | .exn c σ2 => .exn c σ2
      | .ok .next σ2 => whileL t body n σ2
      | .ok .cnt σ2 => whileL t body n σ2
      | .ok .brk σ2 => .ok .next σ2
      | .ok (.ret v) σ2 => .ok (.ret v) σ2
mutual
def evS (C : Cfg) : Sm → M Flow
  | .asg p e => (evE C e).bind fun v σ => match asgP p v σ with
    | some σ' => .ok .next σ'
    | none => .bad
  | .par is es => (evL C es).bind fun vs σ => match setAll is vs σ with
    | some σ' => .ok .next σ'
    | none => .bad
  | .sub i k e => (evE C e).bind fun v => (isL i).bind fun _ => (evE C k).bind fun kv σ => match slot σ i, kv with
    | some (.lst ds, .un c), (.int j, _) => match ixN ds.length j, itemV c v with
      | some m, some x => .ok .next (σ.set i (some (.lst (ds.set m x), .un c)))
      | _, _ => .bad
    | _, _ => .bad
  | .app i e => (isL i).bind fun _ => (evE C e).bind fun v σ => match slot σ i with
    | some (.lst ds, .un c) => match itemV c v with
      | some x => if ds.length < big then .ok .next (σ.set i (some (.lst (ds ++ [x]), .un c))) else .bad
      | none => .bad
    | _ => .bad
  | .ext i e => (isL i).bind fun _ => (evE C e).bind fun v σ => match slot σ i, lstOf v with
    | some (.lst ds, .un .fz), some xs => if ds.length + xs.length ≤ big then .ok .next (σ.set i (some (.lst (ds ++ xs), .un .fz))) else .bad
    | _, _ => .bad
  | .ex e => (evE C e).bind fun _ => M.pure .next
  | .ret e => (evE C e).bind fun v => M.pure (.ret v)
  | .retN => M.pure (.ret (.non, .fz))
  | .iff t a b => (evT C t).bind fun c => if c then evB C a else evB C b
  | .for_ p it body => (evI C it).bind fun ds => forL (evB C body) p ds
  | .whl t body => whileL (evT C t) (evB C body) C.fuel
  | .rse c _ => fun σ => .exn c σ
  | .pss => M.pure .next
  | .brk => M.pure .brk
  | .cnt => M.pure .cnt
def evB (C : Cfg) : Sms → M Flow
  | .nil => M.pure .next
  | .cons s r => (evS C s).bind fun f => match f with
    | .next => evB C r
    | f => M.pure f
end
/-- what a def hands back of the parameters that it wrote -/
def outs : List Bool → Fr → Option (List Val)
  | [], _ => some []
  | true :: bs, some v :: σ => (outs bs σ).map (v :: ·)
  | false :: bs, _ :: σ => outs bs σ
  | _, _ => none
def finish (io : List Bool) : Out Flow → COut
  | .ok .next σ => match outs io σ with
    | some vs => .ret (.non, .fz) vs
    | none => .bad
  | .ok (.ret v) σ => match outs io σ with
    | some vs => .ret v vs
    | none => .bad
  | .exn c σ => match outs io σ with
    | some vs => .exn c vs
    | none => .bad
  | _ => .bad
structure Prg where
  fn : Str → Option Fd
  gc : Str → Option D
  fuel : Nat
def Prg.cfg (P : Prg) (cl : Str → List Val → COut) : Cfg := { cl := cl, io := fun f => (P.fn f).map (·.io), gc := P.gc, fuel := P.fuel }
def callF (P : Prg) : Nat → Str → List Val → COut
  | 0, _, _ => .bad
  | n + 1, f, vs => match P.fn f with
    | none => .bad
    | some fd => if vs.length = fd.io.length then finish fd.io (evB (P.cfg (callF P n)) fd.body (vs.map some ++ List.replicate fd.more none)) else .bad
end Py

set_option Elab.async false
set_option linter.all false
set_option maxRecDepth 100000
set_option maxHeartbeats 4000000
/-! PyB: how data stand in the abstract heap. -/
namespace Py
open PySem L2

/-- the script -/
def SF (K : PySem.W.Frag) (H : Hp) (a : Addr) (ns : List Int) : Prop :=
  (∃ o, H a = some (.frz o (.lst (ns.map V.int)))) ∨
    ∃ (o : Obj) (its : Array Value) (n : Nat), K.lookup a = some o ∧ o.cls = .type "list" ∧ o.dict = none ∧ o.data = .seq its n ∧ its.size ≤ sizeLine ∧ Vals (ns.map V.int) its.toList
theorem SF.sq {K : PySem.W.Frag} {H : Hp} {a : Addr} {ns : List Int} (h : SF K H a ns) : SqL K H a (ns.map V.int) := by
  rcases h with ⟨o, h⟩ | h
  · exact .inl (.inr ⟨o, h⟩)
  · exact .inr h
mutual
/-- v is d, and nobody writes at it any more (Z: the frozen addresses) -/
inductive FD (K : PySem.W.Frag) (mg : Str → Option Value) (H : Hp) (Z : Addr → Prop) : V → D → Prop
  | non : FD K mg H Z .non .non
  | bl (b : Bool) : FD K mg H Z (.bl b) (.bl b)
  | int (i : Int) : FD K mg H Z (.int i) (.int i)
  | str (x : Str) : FD K mg H Z (.str x) (.str x)
  | gl {x : Str} {a : Addr} : mg x = some (.ref a) → FD K mg H Z (.ref a) (.gl x)
  | tup {a : Addr} {vs : List V} {ds : List D} {o : Obj} : H a = some (.frz o (.tup vs)) → TO o → FDs K mg H Z vs ds → FD K mg H Z (.ref a) (.tup ds)
  | lst {a : Addr} {vs : List V} {ds : List D} : H a = some (.lst vs) → Z a → FDs K mg H Z vs ds → FD K mg H Z (.ref a) (.lst ds)
  | scr {a : Addr} {ns : List Int} : SF K H a ns → FD K mg H Z (.ref a) (.scr ns)
  | dct {a : Addr} {vs : List (Key × V)} {ds : List (Key × D)} : H a = some (.dK vs) → Z a → FDk K mg H Z vs ds → FD K mg H Z (.ref a) (.dct ds)
inductive FDs (K : PySem.W.Frag) (mg : Str → Option Value) (H : Hp) (Z : Addr → Prop) : List V → List D → Prop
  | nil : FDs K mg H Z [] []
  | cons {v : V} {d : D} {vs : List V} {ds : List D} : FD K mg H Z v d → FDs K mg H Z vs ds → FDs K mg H Z (v :: vs) (d :: ds)
inductive FDk (K : PySem.W.Frag) (mg : Str → Option Value) (H : Hp) (Z : Addr → Prop) : List (Key × V) → List (Key × D) → Prop
  | nil : FDk K mg H Z [] []
  | cons {k : Key} {v : V} {d : D} {vs : List (Key × V)} {ds : List (Key × D)} : FD K mg H Z v d → FDk K mg H Z vs ds → FDk K mg H Z ((k, v) :: vs) ((k, d) :: ds)
end
/-- lists of pairs with a footprint each -/
inductive All3 (P : V → D → List Addr → Prop) : List V → List D → List Addr → Prop
  | nil : All3 P [] [] []
  | cons {v : V} {d : D} {f : List Addr} {vs : List V} {ds : List D} {g : List Addr} : P v d f → All3 P vs ds g → All3 P (v :: vs) (d :: ds) (f ++ g)
inductive AllK (P : V → D → List Addr → Prop) : List (Key × V) → List (Key × D) → List Addr → Prop
  | nil : AllK P [] [] []
  | cons {k : Key} {v : V} {d : D} {f : List Addr} {vs : List (Key × V)} {ds : List (Key × D)} {g : List Addr} : P v d f → AllK P vs ds g → AllK P ((k, v) :: vs) ((k, d) :: ds) (f ++ g)
mutual
def R (K : PySem.W.Frag) (mg : Str → Option Value) (H : Hp) (Z : Addr → Prop) : Own → V → D → List Addr → Prop
  | .fz, v, d, f => f = [] ∧ FD K mg H Z v d
  | .un c, v, d, f => ∃ a g, v = .ref a ∧ f = a :: g ∧ ((∃ vs ds, d = .lst ds ∧ H a = some (.lst vs) ∧ All3 (R K mg H Z c) vs ds g) ∨ ∃ vs ds, d = .dct ds ∧ H a = some (.dK vs) ∧ AllK (R K mg H Z c) vs ds g)
  | .tu c, v, d, f => ∃ a vs ds o, v = .ref a ∧ d = .tup ds ∧ H a = some (.frz o (.tup vs)) ∧ TO o ∧ RT K mg H Z c vs ds f
  | .rc _, _, _, _ => False
  | .nl, _, _, _ => False
  | .cn _ _, _, _, _ => False
def RT (K : PySem.W.Frag) (mg : Str → Option Value) (H : Hp) (Z : Addr → Prop) : Own → List V → List D → List Addr → Prop
  | .nl, vs, ds, f => vs = [] ∧ ds = [] ∧ f = []
  | .cn o r, vs, ds, f => ∃ v vs' d ds' f1 f2, vs = v :: vs' ∧ ds = d :: ds' ∧ f = f1 ++ f2 ∧ R K mg H Z o v d f1 ∧ RT K mg H Z r vs' ds' f2
  | .fz, _, _, _ => False
  | .un _, _, _, _ => False
  | .tu _, _, _, _ => False
  | .rc _, _, _, _ => False
end
/-- the slots -/
inductive RSl (K : PySem.W.Frag) (mg : Str → Option Value) (H : Hp) (Z : Addr → Prop) : Fr → St → List Addr → Prop
  | nil : RSl K mg H Z [] [] []
  | dead {x : Option V} {σ : Fr} {τ : St} {g : List Addr} : RSl K mg H Z σ τ g → RSl K mg H Z (none :: σ) (x :: τ) g
  | live {d : D} {o : Own} {v : V} {f : List Addr} {σ : Fr} {τ : St} {g : List Addr} : R K mg H Z o v d f → RSl K mg H Z σ τ g → RSl K mg H Z (some (d, o) :: σ) (some v :: τ) (f ++ g)

/-- what is held alone is tracked, may be written, is not frozen, stands once -/
def Mb : Option HO → Prop
  | some (.lst _) => True
  | some (.dK _) => True
  | some (.ins _ _ _) => True
  | some (.own _) => True
  | _ => False
structure Ok (H : Hp) (Z : Addr → Prop) (fp : List Addr) : Prop where
  nd : fp.Nodup
  mb : ∀ a ∈ fp, Mb (H a)
  nz : ∀ a ∈ fp, ¬ Z a
  zt : ∀ a, Z a → H a ≠ none
/-- a step: nothing is written but what is held alone (fp); what is held or frozen behind it was held, or is new -/
structure Stp (H : Hp) (Z : Addr → Prop) (fp : List Addr) (H' : Hp) (Z' : Addr → Prop) (fp' : List Addr) : Prop where
  pres : ∀ a o, H a = some o → a ∉ fp → H' a = some o
  zs : ∀ a, Z a → Z' a
  zn : ∀ a, Z' a → Z a ∨ a ∈ fp ∨ H a = none
  fn : ∀ a ∈ fp', a ∈ fp ∨ H a = none

section
variable {K : PySem.W.Frag} {mg : Str → Option Value} {H H' H1 H2 : Hp} {Z Z' Z1 Z2 : Addr → Prop} {fp fp' fp1 fp2 f g : List Addr}
theorem Stp.refl (hf : ∀ a ∈ fp', a ∈ fp) : Stp H Z fp H Z fp' := ⟨fun _ _ h _ => h, fun _ h => h, fun _ h => .inl h, fun a h => .inl (hf a h)⟩
theorem Stp.trans (a : Stp H Z fp H1 Z1 fp1) (b : Stp H1 Z1 fp1 H2 Z2 fp2) : Stp H Z fp H2 Z2 fp2 := by
  have key : ∀ x, H1 x = none → H x = none ∨ x ∈ fp := fun x h => by
    by_cases hx : x ∈ fp
    · exact .inr hx
    · cases q : H x with
      | none => exact .inl rfl
      | some o => rw [a.pres x o q hx] at h; cases h
  refine ⟨fun x o h hx => ?_, fun x h => b.zs x (a.zs x h), fun x h => ?_, fun x h => ?_⟩
  · refine b.pres x o (a.pres x o h hx) fun hx1 => ?_
    rcases a.fn x hx1 with q | q
    · exact hx q
    · rw [h] at q; cases q
  · rcases b.zn x h with q | q | q
    · exact a.zn x q
    · rcases a.fn x q with r | r
      · exact .inr (.inl r)
      · exact .inr (.inr r)
    · rcases key x q with r | r
      · exact .inr (.inr r)
      · exact .inr (.inl r)
  · rcases b.fn x h with q | q
    · exact a.fn x q
    · rcases key x q with r | r
      · exact .inr r
      · exact .inl r
/-- a step that may use more than it is handed -/
theorem Stp.more (a : Stp H Z fp H1 Z1 fp1) (h : ∀ x ∈ fp, x ∈ fp') : Stp H Z fp' H1 Z1 fp1 :=
  ⟨fun x o q hx => a.pres x o q fun z => hx (h x z), a.zs, fun x q => (a.zn x q).imp id (Or.imp (h x) id), fun x q => (a.fn x q).imp (h x) id⟩
theorem Stp.less (a : Stp H Z fp H1 Z1 fp1) (h : ∀ x ∈ fp2, x ∈ fp1) : Stp H Z fp H1 Z1 fp2 := ⟨a.pres, a.zs, a.zn, fun x q => a.fn x (h x q)⟩

/-! ### what stays -/
structure Stays (H : Hp) (Z : Addr → Prop) (H' : Hp) (Z' : Addr → Prop) : Prop where
  tup : ∀ a vs, H a = some (.tup vs) → H' a = some (.tup vs)
  frz : ∀ a o u, H a = some (.frz o u) → H' a = some (.frz o u)
  z : ∀ a o, H a = some o → Z a → H' a = some o
  zs : ∀ a, Z a → Z' a
theorem Stp.stays (s : Stp H Z fp H' Z' fp') (k : Ok H Z fp) : Stays H Z H' Z' := by
  refine ⟨fun a vs h => s.pres a _ h fun z => ?_, fun a o u h => s.pres a _ h fun z => ?_, fun a o h hz => s.pres a o h fun z => k.nz a z hz, s.zs⟩
  · have := k.mb a z; rw [h] at this; exact this
  · have := k.mb a z; rw [h] at this; exact this
theorem sqT_stay (s : Stays H Z H' Z') {a : Addr} {vs : List V} (h : SqT K H a vs) : SqT K H' a vs := by
  rcases h with (h | ⟨o, h⟩) | h
  · exact .inl (.inl (s.tup _ _ h))
  · exact .inl (.inr ⟨o, s.frz _ _ _ h⟩)
  · exact .inr h
theorem sf_stay (s : Stays H Z H' Z') {a : Addr} {ns : List Int} (h : SF K H a ns) : SF K H' a ns := by
  rcases h with ⟨o, h⟩ | h
  · exact .inl ⟨o, s.frz _ _ _ h⟩
  · exact .inr h
mutual
theorem FD.stay (s : Stays H Z H' Z') : ∀ {v : V} {d : D}, FD K mg H Z v d → FD K mg H' Z' v d
  | _, _, .non => .non
  | _, _, .bl b => .bl b
  | _, _, .int i => .int i
  | _, _, .str x => .str x
  | _, _, .gl h => .gl h
  | _, _, .tup h o r => .tup (s.frz _ _ _ h) o (FDs.stay s r)
  | _, _, .lst h z r => .lst (s.z _ _ h z) (s.zs _ z) (FDs.stay s r)
  | _, _, .scr h => .scr (sf_stay s h)
  | _, _, .dct h z r => .dct (s.z _ _ h z) (s.zs _ z) (FDk.stay s r)
theorem FDs.stay (s : Stays H Z H' Z') : ∀ {vs : List V} {ds : List D}, FDs K mg H Z vs ds → FDs K mg H' Z' vs ds
  | _, _, .nil => .nil
  | _, _, .cons h r => .cons (FD.stay s h) (FDs.stay s r)
theorem FDk.stay (s : Stays H Z H' Z') : ∀ {vs : List (Key × V)} {ds : List (Key × D)}, FDk K mg H Z vs ds → FDk K mg H' Z' vs ds
  | _, _, .nil => .nil
  | _, _, .cons h r => .cons (FD.stay s h) (FDk.stay s r)
end
theorem All3.imp {P Q : V → D → List Addr → Prop} : ∀ {vs : List V} {ds : List D} {g : List Addr}, All3 P vs ds g → (∀ v d f, P v d f → (∀ a ∈ f, a ∈ g) → Q v d f) → All3 Q vs ds g
  | _, _, _, .nil, _ => .nil
  | _, _, _, .cons h r, k => .cons (k _ _ _ h fun a q => List.mem_append_left _ q) (All3.imp r fun v d f p q => k v d f p fun a z => List.mem_append_right _ (q a z))
theorem AllK.imp {P Q : V → D → List Addr → Prop} : ∀ {vs : List (Key × V)} {ds : List (Key × D)} {g : List Addr}, AllK P vs ds g → (∀ v d f, P v d f → (∀ a ∈ f, a ∈ g) → Q v d f) → AllK Q vs ds g
  | _, _, _, .nil, _ => .nil
  | _, _, _, .cons h r, k => .cons (k _ _ _ h fun a q => List.mem_append_left _ q) (AllK.imp r fun v d f p q => k v d f p fun a z => List.mem_append_right _ (q a z))
mutual
theorem R.stay (s : Stays H Z H' Z') : ∀ (o : Own) {v : V} {d : D} {f : List Addr}, (∀ a ∈ f, ∀ u, H a = some u → H' a = some u) → R K mg H Z o v d f → R K mg H' Z' o v d f
  | .fz, v, d, f, _, h => by
    unfold R at h ⊢
    exact ⟨h.1, h.2.stay s⟩
  | .un c, v, d, f, k, h => by
    unfold R at h ⊢
    obtain ⟨a, g, rfl, rfl, h⟩ := h
    refine ⟨a, g, rfl, rfl, ?_⟩
    rcases h with ⟨vs, ds, rfl, ha, r⟩ | ⟨vs, ds, rfl, ha, r⟩
    · exact .inl ⟨vs, ds, rfl, k a List.mem_cons_self _ ha, r.imp fun v d f p q => R.stay s c (fun b hb => k b (List.mem_cons_of_mem _ (q b hb))) p⟩
    · exact .inr ⟨vs, ds, rfl, k a List.mem_cons_self _ ha, r.imp fun v d f p q => R.stay s c (fun b hb => k b (List.mem_cons_of_mem _ (q b hb))) p⟩
  | .tu c, v, d, f, k, h => by
    unfold R at h ⊢
    obtain ⟨a, vs, ds, o, rfl, rfl, h, to, r⟩ := h
    exact ⟨a, vs, ds, o, rfl, rfl, s.frz _ _ _ h, to, RT.stay s c k r⟩
  | .rc _, _, _, _, _, h => by unfold R at h; exact h.elim
  | .nl, _, _, _, _, h => by unfold R at h; exact h.elim
  | .cn _ _, _, _, _, _, h => by unfold R at h; exact h.elim
theorem RT.stay (s : Stays H Z H' Z') : ∀ (o : Own) {vs : List V} {ds : List D} {f : List Addr}, (∀ a ∈ f, ∀ u, H a = some u → H' a = some u) → RT K mg H Z o vs ds f → RT K mg H' Z' o vs ds f
  | .nl, vs, ds, f, _, h => by
    unfold RT at h ⊢
    exact h
  | .cn o r, vs, ds, f, k, h => by
    unfold RT at h ⊢
    obtain ⟨v, vs', d, ds', f1, f2, rfl, rfl, rfl, h1, h2⟩ := h
    exact ⟨v, vs', d, ds', f1, f2, rfl, rfl, rfl, R.stay s o (fun a q => k a (List.mem_append_left _ q)) h1, RT.stay s r (fun a q => k a (List.mem_append_right _ q)) h2⟩
  | .fz, _, _, _, _, h => by unfold RT at h; exact h.elim
  | .un _, _, _, _, _, h => by unfold RT at h; exact h.elim
  | .tu _, _, _, _, _, h => by unfold RT at h; exact h.elim
  | .rc _, _, _, _, _, h => by unfold RT at h; exact h.elim
end
theorem RSl.stay (s : Stays H Z H' Z') : ∀ {σ : Fr} {τ : St} {g : List Addr}, RSl K mg H Z σ τ g → (∀ a ∈ g, ∀ u, H a = some u → H' a = some u) → RSl K mg H' Z' σ τ g
  | _, _, _, .nil, _ => .nil
  | _, _, _, .dead r, k => .dead (RSl.stay s r k)
  | _, _, _, .live h r, k => .live (h.stay s _ fun a q => k a (List.mem_append_left _ q)) (RSl.stay s r fun a q => k a (List.mem_append_right _ q))

/-! ### what is frozen -/
/-- what is held alone is given up: from then on nobody writes at it -/
def zap (Z : Addr → Prop) (f : List Addr) : Addr → Prop := fun a => Z a ∨ a ∈ f
theorem zap_stays (Z : Addr → Prop) (f : List Addr) : Stays H Z H (zap Z f) := ⟨fun _ _ h => h, fun _ _ _ h => h, fun _ _ h _ => h, fun _ h => .inl h⟩
theorem FD.zap {v : V} {d : D} (h : FD K mg H Z v d) : FD K mg H (zap Z f) v d := h.stay (zap_stays Z f)
theorem all3_fd {P : V → D → List Addr → Prop} : ∀ {vs : List V} {ds : List D} {g : List Addr}, All3 P vs ds g → (∀ v d f, P v d f → (∀ a ∈ f, a ∈ g) → FD K mg H Z v d) → FDs K mg H Z vs ds
  | _, _, _, .nil, _ => .nil
  | _, _, _, .cons h r, k => .cons (k _ _ _ h fun a q => List.mem_append_left _ q) (all3_fd r fun v d f p q => k v d f p fun a z => List.mem_append_right _ (q a z))
theorem allK_fd {P : V → D → List Addr → Prop} : ∀ {vs : List (Key × V)} {ds : List (Key × D)} {g : List Addr}, AllK P vs ds g → (∀ v d f, P v d f → (∀ a ∈ f, a ∈ g) → FD K mg H Z v d) → FDk K mg H Z vs ds
  | _, _, _, .nil, _ => .nil
  | _, _, _, .cons h r, k => .cons (k _ _ _ h fun a q => List.mem_append_left _ q) (allK_fd r fun v d f p q => k v d f p fun a z => List.mem_append_right _ (q a z))
mutual
theorem R.frz : ∀ (o : Own) {v : V} {d : D} {f : List Addr}, R K mg H Z o v d f → (∀ a ∈ f, Z' a) → (∀ a, Z a → Z' a) → FD K mg H Z' v d
  | .fz, v, d, f, h, _, zs => by
    unfold R at h
    exact h.2.stay ⟨fun _ _ h => h, fun _ _ _ h => h, fun _ _ h _ => h, zs⟩
  | .un c, v, d, f, h, k, zs => by
    unfold R at h
    obtain ⟨a, g, rfl, rfl, h⟩ := h
    rcases h with ⟨vs, ds, rfl, ha, r⟩ | ⟨vs, ds, rfl, ha, r⟩
    · exact .lst ha (k a List.mem_cons_self) (all3_fd r fun v d f p q => R.frz c p (fun b hb => k b (List.mem_cons_of_mem _ (q b hb))) zs)
    · exact .dct ha (k a List.mem_cons_self) (allK_fd r fun v d f p q => R.frz c p (fun b hb => k b (List.mem_cons_of_mem _ (q b hb))) zs)
  | .tu c, v, d, f, h, k, zs => by
    unfold R at h
    obtain ⟨a, vs, ds, o, rfl, rfl, h, to, r⟩ := h
    exact .tup h to (RT.frz c r k zs)
  | .rc _, _, _, _, h, _, _ => by unfold R at h; exact h.elim
  | .nl, _, _, _, h, _, _ => by unfold R at h; exact h.elim
  | .cn _ _, _, _, _, h, _, _ => by unfold R at h; exact h.elim
theorem RT.frz : ∀ (o : Own) {vs : List V} {ds : List D} {f : List Addr}, RT K mg H Z o vs ds f → (∀ a ∈ f, Z' a) → (∀ a, Z a → Z' a) → FDs K mg H Z' vs ds
  | .nl, vs, ds, f, h, _, _ => by
    unfold RT at h
    obtain ⟨rfl, rfl, _⟩ := h
    exact .nil
  | .cn o r, vs, ds, f, h, k, zs => by
    unfold RT at h
    obtain ⟨v, vs', d, ds', f1, f2, rfl, rfl, rfl, h1, h2⟩ := h
    exact .cons (R.frz o h1 (fun a q => k a (List.mem_append_left _ q)) zs) (RT.frz r h2 (fun a q => k a (List.mem_append_right _ q)) zs)
  | .fz, _, _, _, h, _, _ => by unfold RT at h; exact h.elim
  | .un _, _, _, _, h, _, _ => by unfold RT at h; exact h.elim
  | .tu _, _, _, _, h, _, _ => by unfold RT at h; exact h.elim
  | .rc _, _, _, _, h, _, _ => by unfold RT at h; exact h.elim
end
theorem R.fz_iff {v : V} {d : D} {f : List Addr} : R K mg H Z .fz v d f ↔ f = [] ∧ FD K mg H Z v d := by
  unfold R
  exact Iff.rfl
theorem R.of_fd {v : V} {d : D} (h : FD K mg H Z v d) : R K mg H Z .fz v d [] := R.fz_iff.mpr ⟨rfl, h⟩
end
end Py

set_option Elab.async false
set_option linter.all false
set_option maxRecDepth 100000
set_option maxHeartbeats 4000000
/-! PyC: slots; what an expression's reading must hand on. -/
namespace Py
open PySem L2
section
variable {K : PySem.W.Frag} {mg : Str → Option Value} {H H' H1 H2 : Hp} {Z Z' Z1 Z2 : Addr → Prop} {fp fp' fp1 fp2 f g : List Addr}

theorem Ok.perm (k : Ok H Z fp) (p : fp'.Perm fp) : Ok H Z fp' := ⟨p.nodup_iff.mpr k.nd, fun a h => k.mb a (p.mem_iff.mp h), fun a h => k.nz a (p.mem_iff.mp h), k.zt⟩
theorem Ok.sub (k : Ok H Z fp) (s : fp'.Sublist fp) : Ok H Z fp' := ⟨k.nd.sublist s, fun a h => k.mb a (s.subset h), fun a h => k.nz a (s.subset h), k.zt⟩
theorem Ok.left (k : Ok H Z (f ++ g)) : Ok H Z f := k.sub (List.sublist_append_left _ _)
theorem Ok.right (k : Ok H Z (f ++ g)) : Ok H Z g := k.sub (List.sublist_append_right _ _)
theorem Mb.ne {H : Hp} {a : Addr} (h : Mb (H a)) : H a ≠ none := fun q => by rw [q] at h; exact h
/-- held things stay while others are stepped on -/
theorem Stp.keep (s : Stp H Z g H' Z' fp') (k : Ok H Z (f ++ g)) : ∀ a ∈ f, ∀ u, H a = some u → H' a = some u := fun a ha u h =>
  s.pres a u h fun hg => (List.nodup_append.mp k.nd).2.2 a ha a hg rfl
/-- .. and with what is held behind it they make a whole -/
theorem Ok.with (k : Ok H Z (f ++ g)) (s : Stp H Z g H' Z' fp') (k' : Ok H' Z' fp') : Ok H' Z' (f ++ fp') := by
  have dis : ∀ a ∈ f, a ∉ g := fun a ha hg => (List.nodup_append.mp k.nd).2.2 a ha a hg rfl
  have tr : ∀ a ∈ f, H a ≠ none := fun a ha => (k.mb a (List.mem_append_left _ ha)).ne
  refine ⟨List.nodup_append.mpr ⟨(List.nodup_append.mp k.nd).1, k'.nd, fun a ha b hb e => ?_⟩, fun a ha => ?_, fun a ha => ?_, k'.zt⟩
  · subst e
    rcases s.fn a hb with q | q
    · exact dis a ha q
    · exact tr a ha q
  · rcases List.mem_append.mp ha with q | q
    · have m := k.mb a (List.mem_append_left _ q)
      cases e : H a with
      | none => exact absurd e (tr a q)
      | some u => rw [s.keep k a q u e, ← e]; exact m
    · exact k'.mb a q
  · rcases List.mem_append.mp ha with q | q
    · intro hz
      rcases s.zn a hz with r | r | r
      · exact k.nz a (List.mem_append_left _ q) r
      · exact dis a q r
      · exact tr a q r
    · exact k'.nz a q
theorem Stp.under (s : Stp H Z g H' Z' fp') (k : Ok H Z (f ++ g)) : Stp H Z (f ++ g) H' Z' (f ++ fp') :=
  ⟨fun a o h hn => s.pres a o h fun q => hn (List.mem_append_right _ q), s.zs, fun a h => (s.zn a h).imp id (Or.imp (List.mem_append_right _) id), fun a h => by
    rcases List.mem_append.mp h with q | q
    · exact .inl (List.mem_append_left _ q)
    · exact (s.fn a q).imp (List.mem_append_right _) id⟩

/-! ### slots -/
theorem RSl.length : ∀ {σ : Fr} {τ : St} {g : List Addr}, RSl K mg H Z σ τ g → σ.length = τ.length
  | _, _, _, .nil => rfl
  | _, _, _, .dead r => by rw [List.length_cons, List.length_cons, RSl.length r]
  | _, _, _, .live _ r => by rw [List.length_cons, List.length_cons, RSl.length r]
theorem slot_cons0 {x : Option Val} {σ : Fr} : slot (x :: σ) 0 = x := by
  unfold slot
  rw [List.getElem?_cons_zero]
  rfl
theorem slot_consS {x : Option Val} {σ : Fr} {i : Nat} : slot (x :: σ) (i + 1) = slot σ i := by
  unfold slot
  rw [List.getElem?_cons_succ]
/-- a slot taken out -/
theorem RSl.take : ∀ {σ : Fr} {τ : St} {g : List Addr} {i : Nat} {d : D} {o : Own}, RSl K mg H Z σ τ g → slot σ i = some (d, o) →
    ∃ v f g0, τ[i]? = some (some v) ∧ R K mg H Z o v d f ∧ RSl K mg H Z (σ.set i none) τ g0 ∧ g.Perm (f ++ g0)
  | _, _, _, i, d, o, .nil, h => by simp [slot] at h
  | _, _, _, 0, d, o, .dead r, h => by rw [slot_cons0] at h; cases h
  | _, _, _, i + 1, d, o, .dead (x := x) r, h => by
    rw [slot_consS] at h
    obtain ⟨v, f, g0, h1, h2, h3, h4⟩ := RSl.take r h
    exact ⟨v, f, g0, by rw [List.getElem?_cons_succ]; exact h1, h2, .dead h3, h4⟩
  | _, _, _, 0, d, o, .live (v := v) (f := f) (g := g) q r, h => by
    rw [slot_cons0] at h
    cases h
    exact ⟨v, f, g, rfl, q, .dead r, .refl _⟩
  | _, _, _, i + 1, d, o, .live (v := v') (f := f') (g := g') q r, h => by
    rw [slot_consS] at h
    obtain ⟨v, f, g0, h1, h2, h3, h4⟩ := RSl.take r h
    refine ⟨v, f, f' ++ g0, by rw [List.getElem?_cons_succ]; exact h1, h2, .live q h3, ?_⟩
    refine (List.Perm.append_left f' h4).trans ?_
    rw [← List.append_assoc, ← List.append_assoc]
    exact List.Perm.append_right _ List.perm_append_comm
/-- a slot filled; what it held is let go -/
theorem RSl.put : ∀ {σ : Fr} {τ : St} {g : List Addr} {i : Nat} {d : D} {o : Own} {v : V} {f : List Addr}, RSl K mg H Z σ τ g → i < σ.length → R K mg H Z o v d f →
    ∃ g0 g', RSl K mg H Z (σ.set i (some (d, o))) (τ.set i (some v)) g' ∧ g'.Perm (f ++ g0) ∧ g0.Sublist g
  | _, _, _, i, _, _, _, _, .nil, h, _ => by simp at h
  | _, _, _, 0, d, o, v, f, .dead (g := g) r, _, q => ⟨g, f ++ g, .live q r, .refl _, .refl _⟩
  | _, _, _, 0, d, o, v, f, .live (g := g) q' r, _, q => ⟨g, f ++ g, .live q r, .refl _, List.sublist_append_right _ _⟩
  | _, _, _, i + 1, d, o, v, f, .dead r, h, q => by
    obtain ⟨g0, g', h1, h2, h3⟩ := RSl.put r (by simpa using h) q
    exact ⟨g0, g', .dead h1, h2, h3⟩
  | _, _, _, i + 1, d, o, v, f, .live (f := f') (g := g) q' r, h, q => by
    obtain ⟨g0, g', h1, h2, h3⟩ := RSl.put r (by simpa using h) q
    refine ⟨f' ++ g0, f' ++ g', .live q' h1, ?_, List.Sublist.append (.refl _) h3⟩
    refine (List.Perm.append_left f' h2).trans ?_
    rw [← List.append_assoc, ← List.append_assoc]
    exact List.Perm.append_right _ List.perm_append_comm
theorem RSl.dropAt : ∀ {σ : Fr} {τ : St} {g : List Addr} {i : Nat}, RSl K mg H Z σ τ g → ∃ g', RSl K mg H Z (σ.set i none) τ g' ∧ g'.Sublist g
  | _, _, _, _, .nil => ⟨[], by simpa using RSl.nil, .refl _⟩
  | _, _, _, 0, .dead r => ⟨_, .dead r, .refl _⟩
  | _, _, _, 0, .live q r => ⟨_, .dead r, List.sublist_append_right _ _⟩
  | _, _, _, i + 1, .dead r => by
    obtain ⟨g', h1, h2⟩ := RSl.dropAt (i := i) r
    exact ⟨g', .dead h1, h2⟩
  | _, _, _, i + 1, .live (f := f) q r => by
    obtain ⟨g', h1, h2⟩ := RSl.dropAt (i := i) r
    exact ⟨f ++ g', .live q h1, List.Sublist.append (.refl _) h2⟩
theorem slot_lt {σ : Fr} {i : Nat} {v : Val} (h : slot σ i = some v) : i < σ.length := by
  unfold slot at h
  cases e : σ[i]? with
  | none => rw [e] at h; cases h
  | some x => exact (List.getElem?_eq_some_iff.mp e).1
/-- a slot that held nothing: the value of the frame's own slot stays -/
theorem RSl.fill {σ : Fr} {τ : St} {g : List Addr} {i : Nat} {d : D} {o : Own} {v : V} {f : List Addr} (r : RSl K mg H Z σ τ g) (hi : i < σ.length) (hv : τ[i]? = some (some v)) (q : R K mg H Z o v d f) :
    ∃ g0 g', RSl K mg H Z (σ.set i (some (d, o))) τ g' ∧ g'.Perm (f ++ g0) ∧ g0.Sublist g := by
  have e : τ.set i (some v) = τ := by
    obtain ⟨h, e⟩ := List.getElem?_eq_some_iff.mp hv
    rw [← e]
    exact List.set_getElem_self h
  obtain ⟨g0, g', h1, h2, h3⟩ := r.put hi q
  rw [e] at h1
  exact ⟨g0, g', h1, h2, h3⟩
end
/-! ### readings by what they are for -/
def WE (X : Cx) (e : Expr) (τ : St) (H : Hp) (Q : VK) : Prop := ∀ (pins : List (Addr × Obj)) (s : Shared), Inv X pins τ H s → wpAny (model X.prog X.w) X.A (eval e X.env) (EP X pins τ Q) X.xe s
theorem peW (X : Cx) (e : Expr) : PE X e (WE X e) := ⟨fun pins s _ _ _ I h => h pins s I⟩
theorem WE.of {X : Cx} {e : Expr} {t : TE} (h : PE X e t) {τ : St} {H : Hp} {Q : VK} (q : t τ H Q) : WE X e τ H Q := fun pins s I => h.run pins s τ H Q I q
theorem WE.mono {X : Cx} {e : Expr} {τ : St} {H : Hp} {Q Q' : VK} (h : WE X e τ H Q) (k : ∀ v H', Q v H' → Q' v H') : WE X e τ H Q' := fun pins s I =>
  thn (h pins s I) fun u s' ⟨v, H', I', r, q⟩ => ⟨v, H', I', r, k v H' q⟩
def WT (X : Cx) (e : Expr) (τ : St) (H : Hp) (Q : Bool → Hp → Prop) : Prop := ∀ (pins : List (Addr × Obj)) (s : Shared), Inv X pins τ H s → wpAny (model X.prog X.w) X.A (isTrue e X.env (eval e X.env)) (TP X pins τ Q) X.xe s
theorem ptW (X : Cx) (e : Expr) : PT X e (WT X e) := ⟨fun pins s _ _ _ I h => h pins s I⟩
theorem WT.of {X : Cx} {e : Expr} {t : TT} (h : PT X e t) {τ : St} {H : Hp} {Q : Bool → Hp → Prop} (q : t τ H Q) : WT X e τ H Q := fun pins s I => h.run pins s τ H Q I q
/-- several, from the left -/
def WEs (X : Cx) : List Expr → St → Hp → (List V → Hp → Prop) → Prop
  | [], _, H, Q => Q [] H
  | e :: es, τ, H, Q => WE X e τ H fun x H1 => WEs X es τ H1 fun xs H2 => Q (x :: xs) H2
/-- no star -/
def noStar : Expr → Bool
  | .Starred _ _ => false
  | _ => true
theorem star_cons {e : Expr} {es : List Expr} {env : Env} (h : noStar e = true) : starEach (e :: es) env = (false, eval e env) :: starEach es env := by
  cases e <;> first | rfl | cases h
theorem paW (X : Cx) : ∀ es : List Expr, es.all noStar = true → PA X es (WEs X es)
  | [], _ => pa_nil
  | e :: es, h => by
    have h' : noStar e = true ∧ es.all noStar = true := by simpa using h
    exact pa_cons (peW X e) (paW X es h'.2) (star_cons h'.1)

/-! ### what is shown of a piece of text -/
/-- an exception of the class c is wished for, the slots being σ' -/
def XP (X : Cx) (W : WX) (τ : St) (H : Hp) (Z : Addr → Prop) (fp : List Addr) (c : Str) (σ' : Fr) : Prop :=
  ∀ H' Z' g, Stp H Z fp H' Z' g → Ok H' Z' g → RSl X.K X.mg H' Z' σ' τ g → ∀ C, X.mg c = some (.ref C) → W (.ref C) none τ H'
def Post {α : Type} (X : Cx) (W : WX) (τ : St) (H : Hp) (Z : Addr → Prop) (fp : List Addr) (k : α → Fr → Prop) : Out α → Prop
  | .ok a σ' => k a σ'
  | .exn c σ' => XP X W τ H Z fp c σ'
  | .bad => False
theorem XP.step {X : Cx} {W : WX} {τ : St} {H H1 : Hp} {Z Z1 : Addr → Prop} {fp f g : List Addr} {c : Str} {σ' : Fr} (x : XP X W τ H Z fp c σ') (s : Stp H Z fp H1 Z1 (f ++ g)) (k : Ok H1 Z1 (f ++ g)) : XP X W τ H1 Z1 g c σ' :=
  fun H' Z' g' s' k' r C m => x H' Z' g' (s.trans (s'.more fun a q => List.mem_append_right _ q)) k' r C m
theorem Post.bind {α β : Type} {X : Cx} {W : WX} {τ : St} {H : Hp} {Z : Addr → Prop} {fp : List Addr} {k : β → Fr → Prop} {m : M α} {f : α → M β} {σ : Fr} (h : Post X W τ H Z fp k (m.bind f σ)) :
    Post X W τ H Z fp (fun a σ' => Post X W τ H Z fp k (f a σ')) (m σ) := by
  unfold M.bind at h
  cases e : m σ with
  | ok a σ' => rw [e] at h; exact h
  | exn c σ' => rw [e] at h; exact h
  | bad => rw [e] at h; exact h
theorem Post.mono {α : Type} {X : Cx} {W : WX} {τ : St} {H : Hp} {Z : Addr → Prop} {fp : List Addr} {k k' : α → Fr → Prop} {o : Out α} (h : Post X W τ H Z fp k o) (q : ∀ a σ', k a σ' → k' a σ') : Post X W τ H Z fp k' o := by
  cases o with
  | ok a σ' => exact q a σ' h
  | exn c σ' => exact h
  | bad => exact h
/-- the exceptions' part at a later state -/
theorem Post.step {α : Type} {X : Cx} {W : WX} {τ : St} {H H1 : Hp} {Z Z1 : Addr → Prop} {fp f g : List Addr} {k k' : α → Fr → Prop} {o : Out α} (h : Post X W τ H Z fp k o) (s : Stp H Z fp H1 Z1 (f ++ g)) (kk : Ok H1 Z1 (f ++ g)) (q : ∀ a σ', k a σ' → k' a σ') :
    Post X W τ H1 Z1 g k' o := by
  cases o with
  | ok a σ' => exact q a σ' h
  | exn c σ' => exact XP.step h s kk
  | bad => exact h

/-- a value -/
def kV1 (X : Cx) (τ : St) (H : Hp) (Z : Addr → Prop) (fp : List Addr) (Q : VK) : Val → Fr → Prop := fun a σ' =>
  ∀ v H' Z' f g, Stp H Z fp H' Z' (f ++ g) → Ok H' Z' (f ++ g) → R X.K X.mg H' Z' a.2 v a.1 f → RSl X.K X.mg H' Z' σ' τ g → Q v H'
def VE (X : Cx) (W : WX) (e : Expr) (m : M Val) : Prop :=
  ∀ τ H Z fp σ Q, RSl X.K X.mg H Z σ τ fp → Ok H Z fp → Post X W τ H Z fp (kV1 X τ H Z fp Q) (m σ) → WE X e τ H Q
/-- a test -/
def kT1 (X : Cx) (τ : St) (H : Hp) (Z : Addr → Prop) (fp : List Addr) (Q : Bool → Hp → Prop) : Bool → Fr → Prop := fun b σ' =>
  ∀ H' Z' g, Stp H Z fp H' Z' g → Ok H' Z' g → RSl X.K X.mg H' Z' σ' τ g → Q b H'
def VT (X : Cx) (W : WX) (e : Expr) (m : M Bool) : Prop :=
  ∀ τ H Z fp σ Q, RSl X.K X.mg H Z σ τ fp → Ok H Z fp → Post X W τ H Z fp (kT1 X τ H Z fp Q) (m σ) → WT X e τ H Q
/-- operands -/
def RA (K : PySem.W.Frag) (mg : Str → Option Value) (H : Hp) (Z : Addr → Prop) (τ : St) : AV → V → List Addr → Prop
  | .pl i, v, f => τ[i]? = some (some v) ∧ f = []
  | .vl (d, o), v, f => R K mg H Z o v d f
inductive RAs (K : PySem.W.Frag) (mg : Str → Option Value) (H : Hp) (Z : Addr → Prop) (τ : St) : List AV → List V → List Addr → Prop
  | nil : RAs K mg H Z τ [] [] []
  | cons {a : AV} {v : V} {f : List Addr} {as : List AV} {vs : List V} {g : List Addr} : RA K mg H Z τ a v f → RAs K mg H Z τ as vs g → RAs K mg H Z τ (a :: as) (v :: vs) (f ++ g)
def kA1 (X : Cx) (τ : St) (H : Hp) (Z : Addr → Prop) (fp : List Addr) (Q : List V → Hp → Prop) : List AV → Fr → Prop := fun as σ' =>
  ∀ vs H' Z' f g, Stp H Z fp H' Z' (f ++ g) → Ok H' Z' (f ++ g) → RAs X.K X.mg H' Z' τ as vs f → RSl X.K X.mg H' Z' σ' τ g → Q vs H'
def VA (X : Cx) (W : WX) (es : List Expr) (m : M (List AV)) : Prop :=
  ∀ τ H Z fp σ Q, RSl X.K X.mg H Z σ τ fp → Ok H Z fp → Post X W τ H Z fp (kA1 X τ H Z fp Q) (m σ) → WEs X es τ H Q
/-- values one by one -/
inductive RVs (K : PySem.W.Frag) (mg : Str → Option Value) (H : Hp) (Z : Addr → Prop) : List Val → List V → List Addr → Prop
  | nil : RVs K mg H Z [] [] []
  | cons {d : D} {o : Own} {v : V} {f : List Addr} {as : List Val} {vs : List V} {g : List Addr} : R K mg H Z o v d f → RVs K mg H Z as vs g → RVs K mg H Z ((d, o) :: as) (v :: vs) (f ++ g)
def kL1 (X : Cx) (τ : St) (H : Hp) (Z : Addr → Prop) (fp : List Addr) (Q : List V → Hp → Prop) : List Val → Fr → Prop := fun as σ' =>
  ∀ vs H' Z' f g, Stp H Z fp H' Z' (f ++ g) → Ok H' Z' (f ++ g) → RVs X.K X.mg H' Z' as vs f → RSl X.K X.mg H' Z' σ' τ g → Q vs H'
def VL (X : Cx) (W : WX) (es : List Expr) (m : M (List Val)) : Prop :=
  ∀ τ H Z fp σ Q, RSl X.K X.mg H Z σ τ fp → Ok H Z fp → Post X W τ H Z fp (kL1 X τ H Z fp Q) (m σ) → WEs X es τ H Q

section
variable {X : Cx} {W : WX} {e e1 : Expr} {es : List Expr}
theorem Stp.same {H : Hp} {Z : Addr → Prop} {fp : List Addr} : Stp H Z fp H Z fp := Stp.refl fun _ h => h
theorem RA.stay {K : PySem.W.Frag} {mg : Str → Option Value} {H H' : Hp} {Z Z' : Addr → Prop} {τ : St} {a : AV} {v : V} {f : List Addr} (s : Stays H Z H' Z') (k : ∀ a ∈ f, ∀ u, H a = some u → H' a = some u) (h : RA K mg H Z τ a v f) : RA K mg H' Z' τ a v f := by
  cases a with
  | pl i => exact h
  | vl x => exact R.stay s _ k h
theorem RAs.stay {K : PySem.W.Frag} {mg : Str → Option Value} {H H' : Hp} {Z Z' : Addr → Prop} {τ : St} (s : Stays H Z H' Z') : ∀ {as : List AV} {vs : List V} {f : List Addr}, (∀ a ∈ f, ∀ u, H a = some u → H' a = some u) → RAs K mg H Z τ as vs f → RAs K mg H' Z' τ as vs f
  | _, _, _, _, .nil => .nil
  | _, _, _, k, .cons h r => .cons (h.stay s fun a q => k a (List.mem_append_left _ q)) (RAs.stay s (fun a q => k a (List.mem_append_right _ q)) r)
theorem RVs.stay {K : PySem.W.Frag} {mg : Str → Option Value} {H H' : Hp} {Z Z' : Addr → Prop} (s : Stays H Z H' Z') : ∀ {as : List Val} {vs : List V} {f : List Addr}, (∀ a ∈ f, ∀ u, H a = some u → H' a = some u) → RVs K mg H Z as vs f → RVs K mg H' Z' as vs f
  | _, _, _, _, .nil => .nil
  | _, _, _, k, .cons h r => .cons (h.stay s _ fun a q => k a (List.mem_append_left _ q)) (RVs.stay s (fun a q => k a (List.mem_append_right _ q)) r)
/-- one value, then the rest: the value is kept meanwhile -/
theorem ve_then {m : M Val} {β : Type} {F : Val → M β} {k : β → Fr → Prop} (h : VE X W e m) {τ : St} {H : Hp} {Z : Addr → Prop} {fp : List Addr} {σ : Fr} {G : VK} (r : RSl X.K X.mg H Z σ τ fp) (ok : Ok H Z fp)
    (hp : Post X W τ H Z fp k (m.bind F σ))
    (go : ∀ a σ1 v H1 Z1 f g, Stp H Z fp H1 Z1 (f ++ g) → Ok H1 Z1 (f ++ g) → R X.K X.mg H1 Z1 a.2 v a.1 f → RSl X.K X.mg H1 Z1 σ1 τ g → Post X W τ H Z fp k (F a σ1) → G v H1) : WE X e τ H G :=
  h τ H Z fp σ G r ok (hp.bind.mono fun a σ1 q v H1 Z1 f g s1 k1 ra rs => go a σ1 v H1 Z1 f g s1 k1 ra rs q)
def kO1 (X : Cx) (τ : St) (H : Hp) (Z : Addr → Prop) (fp : List Addr) (Q : VK) : AV → Fr → Prop := fun a σ' =>
  ∀ v H' Z' f g, Stp H Z fp H' Z' (f ++ g) → Ok H' Z' (f ++ g) → RA X.K X.mg H' Z' τ a v f → RSl X.K X.mg H' Z' σ' τ g → Q v H'
def VO (X : Cx) (W : WX) (e : Expr) (m : M AV) : Prop :=
  ∀ τ H Z fp σ Q, RSl X.K X.mg H Z σ τ fp → Ok H Z fp → Post X W τ H Z fp (kO1 X τ H Z fp Q) (m σ) → WE X e τ H Q
theorem vo_of_ve {m : M Val} (h : VE X W e m) : VO X W e (m.bind fun v => M.pure (.vl v)) := fun τ H Z fp σ Q r ok hp =>
  h τ H Z fp σ Q r ok (hp.bind.mono fun a σ1 q v H1 Z1 f g s1 k1 ra rs => q v H1 Z1 f g s1 k1 ra rs)
theorem vo_var {i : Nat} (h : PE X e (tVar i)) : VO X W e (fun σ => match slot σ i with
    | none => .bad
    | some _ => .ok (.pl i) σ) := by
  intro τ H Z fp σ Q r ok hp
  dsimp only at hp
  cases eq : slot σ i with
  | none => rw [eq] at hp; exact hp.elim
  | some x =>
    obtain ⟨d, o⟩ := x
    rw [eq] at hp
    obtain ⟨v, f0, g0, hv, _⟩ := r.take eq
    exact WE.of h ⟨v, hv, hp v H Z [] fp Stp.same ok ⟨hv, rfl⟩ r⟩
theorem vo_then {m : M AV} {β : Type} {F : AV → M β} {k : β → Fr → Prop} (h : VO X W e m) {τ : St} {H : Hp} {Z : Addr → Prop} {fp : List Addr} {σ : Fr} {G : VK} (r : RSl X.K X.mg H Z σ τ fp) (ok : Ok H Z fp)
    (hp : Post X W τ H Z fp k (m.bind F σ))
    (go : ∀ a σ1 v H1 Z1 f g, Stp H Z fp H1 Z1 (f ++ g) → Ok H1 Z1 (f ++ g) → RA X.K X.mg H1 Z1 τ a v f → RSl X.K X.mg H1 Z1 σ1 τ g → Post X W τ H Z fp k (F a σ1) → G v H1) : WE X e τ H G :=
  h τ H Z fp σ G r ok (hp.bind.mono fun a σ1 q v H1 Z1 f g s1 k1 ra rs => go a σ1 v H1 Z1 f g s1 k1 ra rs q)
theorem va_nil : VA X W [] (M.pure []) := fun τ H Z fp σ Q r ok hp => hp [] H Z [] fp Stp.same ok .nil r
theorem va_cons {m : M AV} {ms : M (List AV)} (h : VO X W e m) (hs : VA X W es ms) : VA X W (e :: es) (m.bind fun v => ms.bind fun as => M.pure (v :: as)) := by
  intro τ H Z fp σ Q r ok hp
  refine vo_then h r ok hp fun a σ1 v H1 Z1 f g s1 k1 ra rs q => ?_
  refine hs τ H1 Z1 g σ1 _ rs k1.right (q.bind.step s1 k1 fun as σ2 q2 => ?_)
  intro vs H2 Z2 f2 g2 s2 k2 ras rs2
  have e : f ++ (f2 ++ g2) = (f ++ f2) ++ g2 := (List.append_assoc _ _ _).symm
  refine q2 (v :: vs) H2 Z2 (f ++ f2) g2 ?_ ?_ (.cons (ra.stay (s2.stays k1.right) (s2.keep k1)) ras) rs2
  · rw [← e]; exact s1.trans (s2.under k1)
  · rw [← e]; exact k1.with s2 k2
theorem vl_nil : VL X W [] (M.pure []) := fun τ H Z fp σ Q r ok hp => hp [] H Z [] fp Stp.same ok .nil r
theorem vl_cons {m : M Val} {ms : M (List Val)} (h : VE X W e m) (hs : VL X W es ms) : VL X W (e :: es) (m.bind fun v => ms.bind fun as => M.pure (v :: as)) := by
  intro τ H Z fp σ Q r ok hp
  refine ve_then h r ok hp fun a σ1 v H1 Z1 f g s1 k1 ra rs q => ?_
  refine hs τ H1 Z1 g σ1 _ rs k1.right (q.bind.step s1 k1 fun as σ2 q2 => ?_)
  intro vs H2 Z2 f2 g2 s2 k2 ras rs2
  have e : f ++ (f2 ++ g2) = (f ++ f2) ++ g2 := (List.append_assoc _ _ _).symm
  refine q2 (v :: vs) H2 Z2 (f ++ f2) g2 ?_ ?_ (.cons (R.stay (s2.stays k1.right) _ (s2.keep k1) ra) ras) rs2
  · rw [← e]; exact s1.trans (s2.under k1)
  · rw [← e]; exact k1.with s2 k2
/-- a name -/
theorem frz_step {K : PySem.W.Frag} {mg : Str → Option Value} {H : Hp} {Z : Addr → Prop} {fp f g0 : List Addr} (ok : Ok H Z fp) (p : fp.Perm (f ++ g0)) : Stp H Z fp H (zap Z f) g0 ∧ Ok H (zap Z f) g0 := by
  have k := ok.perm p.symm
  refine ⟨⟨fun _ _ h _ => h, fun _ h => .inl h, fun a h => ?_, fun a h => .inl (p.mem_iff.mpr (List.mem_append_right _ h))⟩, ⟨k.right.nd, k.right.mb, fun a h hz => ?_, fun a h => ?_⟩⟩
  · rcases h with h | h
    · exact .inl h
    · exact .inr (.inl (p.mem_iff.mpr (List.mem_append_left _ h)))
  · rcases hz with hz | hz
    · exact k.right.nz a h hz
    · exact (List.nodup_append.mp k.nd).2.2 a hz a h rfl
  · rcases h with h | h
    · exact ok.zt a h
    · exact (k.left.mb a h).ne
theorem getV_spec {K : PySem.W.Frag} {mg : Str → Option Value} {H : Hp} {Z : Addr → Prop} {fp : List Addr} {σ : Fr} {τ : St} {i : Nat} {d : D} {o : Own} (r : RSl K mg H Z σ τ fp) (ok : Ok H Z fp) (e : slot σ i = some (d, o)) :
    ∃ v Z' g, τ[i]? = some (some v) ∧ Stp H Z fp H Z' g ∧ Ok H Z' g ∧ FD K mg H Z' v d ∧ ∃ σ', getV i σ = .ok (d, .fz) σ' ∧ RSl K mg H Z' σ' τ g := by
  obtain ⟨v, f, g0, hv, hr, hs, hp⟩ := r.take e
  by_cases ho : o = .fz
  · subst ho
    refine ⟨v, Z, fp, hv, Stp.same, ok, (R.fz_iff.mp hr).2, σ, ?_, r⟩
    unfold getV
    rw [e]
  · obtain ⟨s1, k1⟩ := frz_step (K := K) (mg := mg) ok hp
    have fd : FD K mg H (zap Z f) v d := hr.frz o (fun a h => .inr h) fun a h => .inl h
    have hs' : RSl K mg H (zap Z f) (σ.set i none) τ g0 := hs.stay (zap_stays Z f) fun _ _ _ h => h
    obtain ⟨g1, g', h1, h2, h3⟩ := hs'.fill (d := d) (o := .fz) (f := []) (i := i) (by rw [List.length_set]; exact slot_lt e) hv (R.of_fd fd)
    rw [List.set_set] at h1
    have h2' : g'.Perm g1 := by simpa using h2
    refine ⟨v, zap Z f, g', hv, s1.less fun a h => h3.subset (h2'.mem_iff.mp h), (k1.sub h3).perm h2', fd, _, ?_, h1⟩
    unfold getV
    rw [e]
    cases o <;> first | rfl | exact absurd rfl ho
theorem ve_var {i : Nat} (h : PE X e (tVar i)) : VE X W e (getV i) := by
  intro τ H Z fp σ Q r ok hp
  cases eq : slot σ i with
  | none => unfold getV at hp; rw [eq] at hp; exact hp.elim
  | some x =>
    obtain ⟨d, o⟩ := x
    obtain ⟨v, Z', g, hv, s1, k1, fd, σ', es, rs⟩ := getV_spec r ok eq
    rw [es] at hp
    exact WE.of h ⟨v, hv, hp v H Z' [] g s1 k1 (R.of_fd fd) rs⟩
theorem ve_mov {i : Nat} (h : PE X e (tVar i)) : VE X W e (movV i) := by
  intro τ H Z fp σ Q r ok hp
  unfold movV at hp
  cases eq : slot σ i with
  | none => rw [eq] at hp; exact hp.elim
  | some x =>
    obtain ⟨d, o⟩ := x
    obtain ⟨v, f, g0, hv, hr, hs, hpm⟩ := r.take eq
    rw [eq] at hp
    refine WE.of h ⟨v, hv, ?_⟩
    by_cases ho : o = .fz
    · subst ho
      obtain ⟨rfl, fd⟩ := R.fz_iff.mp hr
      exact hp v H Z [] fp Stp.same ok hr r
    · have hp' : kV1 X τ H Z fp Q (d, o) (σ.set i none) := by
        cases o <;> first | exact hp | exact absurd rfl ho
      exact hp' v H Z f g0 (Stp.refl fun a h => hpm.mem_iff.mpr h) (ok.perm hpm.symm) hr hs
theorem ve_fz {d : D} {v : V} (h : PE X e (tC v)) (fd : ∀ H Z, FD X.K X.mg H Z v d) : VE X W e (M.pure (d, .fz)) := fun τ H Z fp σ Q r ok hp =>
  WE.of h (hp v H Z [] fp Stp.same ok (R.of_fd (fd H Z)) r)
end
end Py

set_option Elab.async false
set_option linter.all false
set_option maxRecDepth 100000
set_option maxHeartbeats 4000000
/-! PyD: primitives over data, by the layer's rules. -/
namespace Py
open PySem PySem.Spec PyProof.Rows L2

/-! ### what an operation reads -/
section
variable {K : PySem.W.Frag} {mg : Str → Option Value} {H H' : Hp} {Z Z' : Addr → Prop}
/-- v can be read as d now: frozen, or a list or dict whose items are -/
def FL (K : PySem.W.Frag) (mg : Str → Option Value) (H : Hp) (Z : Addr → Prop) (v : V) (d : D) : Prop :=
  FD K mg H Z v d ∨ (∃ a vs ds, v = .ref a ∧ d = .lst ds ∧ H a = some (.lst vs) ∧ FDs K mg H Z vs ds) ∨ ∃ a vs ds, v = .ref a ∧ d = .dct ds ∧ H a = some (.dK vs) ∧ FDk K mg H Z vs ds
inductive FLs (K : PySem.W.Frag) (mg : Str → Option Value) (H : Hp) (Z : Addr → Prop) : List V → List D → Prop
  | nil : FLs K mg H Z [] []
  | cons {v : V} {d : D} {vs : List V} {ds : List D} : FL K mg H Z v d → FLs K mg H Z vs ds → FLs K mg H Z (v :: vs) (d :: ds)
theorem all3_fz {vs : List V} {ds : List D} {g : List Addr} (h : All3 (R K mg H Z .fz) vs ds g) : FDs K mg H Z vs ds := all3_fd h fun v d f p _ => (R.fz_iff.mp p).2
theorem allK_fz {vs : List (Key × V)} {ds : List (Key × D)} {g : List Addr} (h : AllK (R K mg H Z .fz) vs ds g) : FDk K mg H Z vs ds := allK_fd h fun v d f p _ => (R.fz_iff.mp p).2
theorem R.fl {o : Own} {v : V} {d : D} {f : List Addr} (h : R K mg H Z o v d f) (s : o.simple = true) : FL K mg H Z v d := by
  cases o with
  | fz => exact .inl (R.fz_iff.mp h).2
  | un c =>
    cases c with
    | fz =>
      unfold R at h
      obtain ⟨a, g, rfl, rfl, h⟩ := h
      rcases h with ⟨vs, ds, rfl, ha, r⟩ | ⟨vs, ds, rfl, ha, r⟩
      · exact .inr (.inl ⟨a, vs, ds, rfl, rfl, ha, all3_fz r⟩)
      · exact .inr (.inr ⟨a, vs, ds, rfl, rfl, ha, allK_fz r⟩)
    | _ => cases s
  | _ => cases s
theorem RA.fl {σ : Fr} {τ : L2.St} {a : AV} {v : V} {d : D} {f g : List Addr} (h : RA K mg H Z τ a v f) (r : RSl K mg H Z σ τ g) (e : a.rd σ = some d) : FL K mg H Z v d := by
  cases a with
  | pl i =>
    obtain ⟨hv, _⟩ := h
    unfold AV.rd at e
    dsimp only at e
    cases q : slot σ i with
    | none => rw [q] at e; cases e
    | some x =>
      obtain ⟨d', o⟩ := x
      rw [q] at e
      dsimp only at e
      split at e
      · cases e
        obtain ⟨v', f', g', hv', hr, _⟩ := r.take q
        rw [hv] at hv'
        cases hv'
        exact hr.fl (by assumption)
      · cases e
  | vl x =>
    obtain ⟨d', o⟩ := x
    unfold AV.rd at e
    dsimp only at e
    split at e
    · cases e
      exact R.fl (show R K mg H Z o v d f from h) (by assumption)
    · cases e
theorem RAs.fls {σ : Fr} {τ : L2.St} {g : List Addr} (r : RSl K mg H Z σ τ g) : ∀ {as : List AV} {vs : List V} {ds : List D} {f : List Addr}, RAs K mg H Z τ as vs f → rds σ as = some ds → FLs K mg H Z vs ds
  | _, _, ds, _, .nil, e => by
    unfold rds at e
    cases e
    exact .nil
  | _, _, ds, _, .cons (a := a) (as := as) h t, e => by
    unfold rds at e
    cases e1 : a.rd σ with
    | none => rw [e1] at e; cases e
    | some d =>
      cases e2 : rds σ as with
      | none => rw [e1, e2] at e; cases e
      | some ds' =>
        rw [e1, e2] at e
        cases e
        exact .cons (h.fl r e1) (RAs.fls r t e2)
/-- more is there than was -/
def Ext (H H' : Hp) (f : List Addr) : Prop := (∀ a u, H a = some u → H' a = some u) ∧ (f = [] ∨ ∃ p, f = [p] ∧ H p = none ∧ Mb (H' p))
theorem Ext.refl : Ext H H [] := ⟨fun _ _ h => h, .inl rfl⟩
theorem upd_ext {p : Addr} {o : HO} (hp : H p = none) : ∀ a u, H a = some u → upd H p o a = some u := fun a u h => by
  rw [upd_ne (ne_of_none h hp)]
  exact h
theorem Ext.stays {f : List Addr} (e : Ext H H' f) : Stays H Z H' Z := ⟨fun _ _ h => e.1 _ _ h, fun _ _ _ h => e.1 _ _ h, fun _ _ h _ => e.1 _ _ h, fun _ h => h⟩
theorem Ext.step {f g : List Addr} (e : Ext H H' f) (k : Ok H Z g) : Stp H Z g H' Z (f ++ g) ∧ Ok H' Z (f ++ g) := by
  have mbk : ∀ a ∈ g, Mb (H' a) := fun a h => by
    have m := k.mb a h
    cases q : H a with
    | none => rw [q] at m; exact m.elim
    | some u => rw [e.1 a u q, ← q]; exact m
  have zt' : ∀ a, Z a → H' a ≠ none := fun a h q => by
    cases r : H a with
    | none => exact k.zt a h r
    | some u => rw [e.1 a u r] at q; cases q
  rcases e.2 with rfl | ⟨p, rfl, hp, hm⟩
  · exact ⟨⟨fun a o h _ => e.1 a o h, fun _ h => h, fun _ h => .inl h, fun a h => .inl h⟩, ⟨k.nd, mbk, k.nz, zt'⟩⟩
  · refine ⟨⟨fun a o h _ => e.1 a o h, fun _ h => h, fun _ h => .inl h, fun a h => ?_⟩, ⟨?_, fun a h => ?_, fun a h => ?_, zt'⟩⟩
    · rcases List.mem_cons.mp h with rfl | h
      · exact .inr hp
      · exact .inl h
    · exact List.nodup_cons.mpr ⟨fun h => (k.mb p h).ne hp, k.nd⟩
    · rcases List.mem_cons.mp h with rfl | h
      · exact hm
      · exact mbk a h
    · rcases List.mem_cons.mp h with rfl | h
      · exact fun z => k.zt a z hp
      · exact k.nz a h
/-- what an answer is wanted for -/
def Ans (K : PySem.W.Frag) (mg : Str → Option Value) (H : Hp) (Z : Addr → Prop) (d : D) (o : Own) (Q : VK) : Prop := ∀ v H' f, Ext H H' f → R K mg H' Z o v d f → Q v H'
theorem Ans.fz {v : V} {d : D} {Q : VK} (h : Ans K mg H Z d .fz Q) (f : FD K mg H Z v d) : Q v H := h v H [] Ext.refl (R.of_fd f)
theorem Ans.tup {vs : List V} {ds : List D} {Q : VK} (h : Ans K mg H Z (.tup ds) .fz Q) (f : FDs K mg H Z vs ds) : NewT H vs Q := fun p o hp to =>
  h (.ref p) _ [] ⟨upd_ext hp, .inl rfl⟩ (R.of_fd (.tup upd_same to (f.stay (Ext.stays (f := []) ⟨upd_ext hp, .inl rfl⟩))))
theorem fds_all3 : ∀ {vs : List V} {ds : List D}, FDs K mg H Z vs ds → All3 (R K mg H Z .fz) vs ds []
  | _, _, .nil => .nil
  | _, _, .cons h r => All3.cons (f := []) (R.of_fd h) (fds_all3 r)
theorem fdk_allK : ∀ {vs : List (Key × V)} {ds : List (Key × D)}, FDk K mg H Z vs ds → AllK (R K mg H Z .fz) vs ds []
  | _, _, .nil => .nil
  | _, _, .cons h r => AllK.cons (f := []) (R.of_fd h) (fdk_allK r)
theorem Ans.lst {vs : List V} {ds : List D} {Q : VK} (h : Ans K mg H Z (.lst ds) (.un .fz) Q) (f : FDs K mg H Z vs ds) : ∀ p, H p = none → Q (.ref p) (upd H p (.lst vs)) := fun p hp => by
  refine h (.ref p) _ [p] ⟨upd_ext hp, .inr ⟨p, rfl, hp, by rw [upd_same]; trivial⟩⟩ ?_
  unfold R
  exact ⟨p, [], rfl, rfl, .inl ⟨vs, ds, rfl, upd_same, fds_all3 (f.stay (Ext.stays (f := []) ⟨upd_ext hp, .inl rfl⟩))⟩⟩
/-! reading off -/
theorem FL.int {v : V} {i : Int} (h : FL K mg H Z v (.int i)) : v = .int i := by
  rcases h with h | ⟨_, _, _, _, e, _⟩ | ⟨_, _, _, _, e, _⟩
  · cases h; rfl
  · cases e
  · cases e
theorem FL.bl {v : V} {i : Bool} (h : FL K mg H Z v (.bl i)) : v = .bl i := by
  rcases h with h | ⟨_, _, _, _, e, _⟩ | ⟨_, _, _, _, e, _⟩
  · cases h; rfl
  · cases e
  · cases e
theorem FL.str {v : V} {i : Str} (h : FL K mg H Z v (.str i)) : v = .str i := by
  rcases h with h | ⟨_, _, _, _, e, _⟩ | ⟨_, _, _, _, e, _⟩
  · cases h; rfl
  · cases e
  · cases e
theorem FL.non {v : V} (h : FL K mg H Z v .non) : v = .non := by
  rcases h with h | ⟨_, _, _, _, e, _⟩ | ⟨_, _, _, _, e, _⟩
  · cases h; rfl
  · cases e
  · cases e
theorem FL.tup {v : V} {ds : List D} (h : FL K mg H Z v (.tup ds)) : ∃ a vs o, v = .ref a ∧ H a = some (.frz o (.tup vs)) ∧ TO o ∧ FDs K mg H Z vs ds ∧ FD K mg H Z v (.tup ds) := by
  rcases h with h | ⟨_, _, _, _, e, _⟩ | ⟨_, _, _, _, e, _⟩
  · cases h with
    | tup h1 h2 h3 => exact ⟨_, _, _, rfl, h1, h2, h3, .tup h1 h2 h3⟩
  · cases e
  · cases e
theorem sqT_frz {a : Addr} {o : Obj} {vs : List V} (h : H a = some (.frz o (.tup vs))) : SqT K H a vs := .inl (.inr ⟨o, h⟩)
theorem FL.lstH {v : V} {ds : List D} (h : FL K mg H Z v (.lst ds)) : ∃ a vs, v = .ref a ∧ H a = some (.lst vs) ∧ FDs K mg H Z vs ds := by
  rcases h with h | ⟨a, vs, ds', rfl, e, h, f⟩ | ⟨_, _, _, _, e, _⟩
  · cases h with
    | lst h1 _ h2 => exact ⟨_, _, rfl, h1, h2⟩
  · cases e
    exact ⟨a, vs, rfl, h, f⟩
  · cases e
theorem FL.lst {v : V} {ds : List D} (h : FL K mg H Z v (.lst ds)) : ∃ a vs, v = .ref a ∧ SqL K H a vs ∧ FDs K mg H Z vs ds := by
  obtain ⟨a, vs, e, h, f⟩ := h.lstH
  exact ⟨a, vs, e, .inl (.inl h), f⟩
theorem FL.scr {v : V} {ns : List Int} (h : FL K mg H Z v (.scr ns)) : ∃ a, v = .ref a ∧ SqL K H a (ns.map V.int) := by
  rcases h with h | ⟨_, _, _, _, e, _⟩ | ⟨_, _, _, _, e, _⟩
  · cases h with
    | scr h => exact ⟨_, rfl, h.sq⟩
  · cases e
  · cases e
theorem FL.dct {v : V} {ds : List (Key × D)} (h : FL K mg H Z v (.dct ds)) : ∃ a vs, v = .ref a ∧ H a = some (.dK vs) ∧ FDk K mg H Z vs ds := by
  rcases h with h | ⟨a, vs, ds', rfl, e, h, f⟩ | ⟨a, vs, ds', rfl, e, h, f⟩
  · cases h with
    | dct h1 h2 h3 => exact ⟨_, _, rfl, h1, h3⟩
  · cases e
  · cases e
    exact ⟨a, vs, rfl, h, f⟩
theorem FDs.length : ∀ {vs : List V} {ds : List D}, FDs K mg H Z vs ds → vs.length = ds.length
  | _, _, .nil => rfl
  | _, _, .cons _ r => by rw [List.length_cons, List.length_cons, FDs.length r]
theorem FDs.get : ∀ {vs : List V} {ds : List D} {i : Nat} {d : D}, FDs K mg H Z vs ds → ds[i]? = some d → ∃ v, vs[i]? = some v ∧ FD K mg H Z v d
  | _, _, _, _, .nil, e => by simp at e
  | _, _, 0, _, .cons h _, e => by
    simp at e
    subst e
    exact ⟨_, rfl, h⟩
  | _, _, i + 1, d, .cons _ r, e => by
    obtain ⟨v, h1, h2⟩ := FDs.get (i := i) r (by simpa using e)
    exact ⟨v, by simpa using h1, h2⟩
theorem FDs.drop : ∀ (n : Nat) {vs : List V} {ds : List D}, FDs K mg H Z vs ds → FDs K mg H Z (vs.drop n) (ds.drop n)
  | 0, _, _, h => h
  | _ + 1, _, _, .nil => .nil
  | n + 1, _, _, .cons _ r => FDs.drop n r
theorem FDs.take : ∀ (n : Nat) {vs : List V} {ds : List D}, FDs K mg H Z vs ds → FDs K mg H Z (vs.take n) (ds.take n)
  | 0, _, _, _ => .nil
  | _ + 1, _, _, .nil => .nil
  | n + 1, _, _, .cons h r => .cons h (FDs.take n r)
theorem FDs.append : ∀ {vs ws : List V} {ds es : List D}, FDs K mg H Z vs ds → FDs K mg H Z ws es → FDs K mg H Z (vs ++ ws) (ds ++ es)
  | _, _, _, _, .nil, q => q
  | _, _, _, _, .cons h r, q => .cons h (FDs.append r q)
theorem FDs.rep {vs : List V} {ds : List D} (h : FDs K mg H Z vs ds) : ∀ n : Nat, FDs K mg H Z (List.replicate n vs).flatten (List.replicate n ds).flatten
  | 0 => .nil
  | n + 1 => by
    rw [List.replicate_succ, List.replicate_succ, List.flatten_cons, List.flatten_cons]
    exact h.append (h.rep n)
theorem FDs.set : ∀ {vs : List V} {ds : List D} {v : V} {d : D} (i : Nat), FDs K mg H Z vs ds → FD K mg H Z v d → FDs K mg H Z (vs.set i v) (ds.set i d)
  | _, _, _, _, _, .nil, _ => .nil
  | _, _, _, _, 0, .cons _ r, q => .cons q r
  | _, _, _, _, i + 1, .cons h r, q => .cons h (FDs.set i r q)
theorem FDs.flat : ∀ {vs : List V} {ds : List D}, FDs K mg H Z vs ds → ds.all D.flat = true → vs.all flatV = true
  | _, _, .nil, _ => rfl
  | _, _, .cons (d := d) (v := v) (ds := ds) h r, e => by
    have e' : d.flat = true ∧ ds.all D.flat = true := by
      rw [List.all_cons] at e
      exact Bool.and_eq_true_iff.mp e
    have h1 : flatV v = true := by
      cases h <;> first | rfl | (exact absurd e'.1 (by simp [D.flat]))
    rw [List.all_cons, h1, FDs.flat r e'.2]
    rfl
theorem fd_flat {v : V} {d : D} (h : FL K mg H Z v d) (e : d.flat = true) : FD K mg H Z v d ∧ flatV v = true := by
  cases d with
  | non => cases h.non; exact ⟨.non, rfl⟩
  | bl b => cases h.bl; exact ⟨.bl b, rfl⟩
  | int i => cases h.int; exact ⟨.int i, rfl⟩
  | str x => cases h.str; exact ⟨.str x, rfl⟩
  | _ => cases e
theorem eqV_of {v w : V} {d e : D} (h1 : FD K mg H Z v d) (h2 : FD K mg H Z w e) (f1 : d.flat = true) (f2 : e.flat = true) : eqV v w = d.eqv e := by
  cases h1 <;> cases h2 <;> first | rfl | cases f1 | cases f2 | (simp [eqV, D.eqv]; done) | skip
theorem inV_of {w : V} {e : D} (h2 : FD K mg H Z w e) (f2 : e.flat = true) : ∀ {vs : List V} {ds : List D}, FDs K mg H Z vs ds → ds.all D.flat = true → inV w vs = ds.any fun d => d.eqv e
  | _, _, .nil, _ => rfl
  | _, _, .cons (d := d) (v := v) (ds := ds) h r, f => by
    have f' : d.flat = true ∧ ds.all D.flat = true := by
      rw [List.all_cons] at f
      exact Bool.and_eq_true_iff.mp f
    have ih := inV_of h2 f2 r f'.2
    unfold inV at ih ⊢
    rw [List.any_cons, List.any_cons, ih, eqV_of h h2 f'.1 f2]
theorem FDs.ints : ∀ {vs : List V} {ds : List D} {ns : List Int}, FDs K mg H Z vs ds → D.ints? ds = some ns → vs = ns.map V.int
  | _, _, ns, .nil, e => by
    unfold D.ints? at e
    cases e
    rfl
  | _, _, ns, .cons (d := d) (ds := ds) h r, e => by
    cases d with
    | int i =>
      unfold D.ints? at e
      cases q : D.ints? ds with
      | none => rw [q] at e; cases e
      | some ms =>
        rw [q] at e
        cases e
        cases h
        rw [List.map_cons, FDs.ints r q]
    | _ => cases e
theorem FDs.bools : ∀ {vs : List V} {ds : List D} {ns : List Bool}, FDs K mg H Z vs ds → D.bools? ds = some ns → vs = ns.map V.bl
  | _, _, ns, .nil, e => by
    unfold D.bools? at e
    cases e
    rfl
  | _, _, ns, .cons (d := d) (ds := ds) h r, e => by
    cases d with
    | bl i =>
      unfold D.bools? at e
      cases q : D.bools? ds with
      | none => rw [q] at e; cases e
      | some ms =>
        rw [q] at e
        cases e
        cases h
        rw [List.map_cons, FDs.bools r q]
    | _ => cases e
end
/-! ### == of data -/
mutual
def D.py : D → PyData
  | .non => .none | .bl b => .bool b | .int i => .int i | .str s => .str s
  | .tup ds => .tuple (D.pys ds) | .lst ds => .list (D.pys ds)
  | .dct _ => .none | .ins _ _ => .none | .exc _ => .none | .gl _ => .none
  | .scr ns => .list (ns.map .int)
def D.pys : List D → List PyData
  | [] => []
  | d :: ds => D.py d :: D.pys ds
end
theorem ints_lay : ∀ ns : List Int, PyData.canLayAll0 (ns.map .int) = true
  | [] => rfl
  | n :: ns => by
    rw [List.map_cons]
    unfold PyData.canLayAll0
    rw [ints_lay ns]
    rfl
theorem ints_depth : ∀ ns : List Int, PyData.depthAll (ns.map .int) = 0
  | [] => rfl
  | n :: ns => by
    rw [List.map_cons]
    unfold PyData.depthAll
    rw [ints_depth ns]
    rfl
theorem eqL_ok : ∀ (ns : List Int) (es : List D), PyData.eqvAll (ns.map .int) (D.pys es) = eqL ns es
  | [], [] => by simp [D.pys, PyData.eqvAll, eqL]
  | [], e :: _ => by simp [D.pys, PyData.eqvAll, eqL]
  | _ :: _, [] => by simp [D.pys, PyData.eqvAll, eqL]
  | n :: ns, e :: es => by
    rw [List.map_cons]
    unfold D.pys PyData.eqvAll
    rw [eqL_ok ns es]
    cases e <;> simp [D.py, PyData.eqv, eqL]
theorem eqR_ok : ∀ (es : List D) (ns : List Int), PyData.eqvAll (D.pys es) (ns.map .int) = eqR es ns
  | [], [] => by simp [D.pys, PyData.eqvAll, eqR]
  | e :: _, [] => by simp [D.pys, PyData.eqvAll, eqR]
  | [], _ :: _ => by simp [D.pys, PyData.eqvAll, eqR]
  | e :: es, n :: ns => by
    rw [List.map_cons]
    unfold D.pys PyData.eqvAll
    rw [eqR_ok es ns]
    cases e <;> simp [D.py, PyData.eqv, eqR]
theorem ints_eqvAll : ∀ ns ms : List Int, PyData.eqvAll (ns.map .int) (ms.map .int) = (ns == ms)
  | [], [] => rfl
  | [], _ :: _ => rfl
  | _ :: _, [] => rfl
  | n :: ns, m :: ms => by
    rw [List.map_cons, List.map_cons]
    unfold PyData.eqvAll
    rw [ints_eqvAll ns ms]
    simp [PyData.eqv]
mutual
theorem py_lay : ∀ d : D, d.plain = true → (D.py d).canLay0 = true
  | .non, _ => rfl
  | .bl _, _ => rfl
  | .int _, _ => rfl
  | .str s, h => by
    unfold D.plain at h
    unfold D.py PyData.canLay0
    exact h
  | .tup ds, h => by
    unfold D.plain at h
    unfold D.py PyData.canLay0
    exact pys_lay ds h
  | .lst ds, h => by
    unfold D.plain at h
    unfold D.py PyData.canLay0
    exact pys_lay ds h
  | .dct _, h => by cases h
  | .ins _ _, h => by cases h
  | .exc _, h => by cases h
  | .gl _, h => by cases h
  | .scr ns, _ => by
    unfold D.py PyData.canLay0
    exact ints_lay ns
theorem pys_lay : ∀ ds : List D, D.plains ds = true → PyData.canLayAll0 (D.pys ds) = true
  | [], _ => rfl
  | d :: ds, h => by
    unfold D.plains at h
    have h' := Bool.and_eq_true_iff.mp h
    unfold D.pys PyData.canLayAll0
    rw [py_lay d h'.1, pys_lay ds h'.2]
    rfl
end
mutual
theorem py_depth : ∀ d : D, (D.py d).depth = d.depth
  | .non => rfl
  | .bl _ => rfl
  | .int _ => rfl
  | .str s => rfl
  | .tup ds => by
    unfold D.py D.depth PyData.depth
    rw [pys_depth ds]
  | .lst ds => by
    unfold D.py D.depth PyData.depth
    rw [pys_depth ds]
  | .dct _ => rfl
  | .ins _ _ => rfl
  | .exc _ => rfl
  | .gl _ => rfl
  | .scr ns => by
    unfold D.py D.depth PyData.depth
    rw [ints_depth]
theorem pys_depth : ∀ ds : List D, PyData.depthAll (D.pys ds) = D.depths ds
  | [] => rfl
  | d :: ds => by
    unfold D.pys D.depths PyData.depthAll
    rw [py_depth d, pys_depth ds]
end
mutual
theorem py_eqv : ∀ d e : D, d.plain = true → e.plain = true → PyData.eqv (D.py d) (D.py e) = d.eqv e
  | .tup ds, .tup es, h1, h2 => by
    unfold D.plain at h1 h2
    unfold D.py PyData.eqv D.eqv
    exact pys_eqv ds es h1 h2
  | .lst ds, .lst es, h1, h2 => by
    unfold D.plain at h1 h2
    unfold D.py PyData.eqv D.eqv
    exact pys_eqv ds es h1 h2
  | .dct _, _, h, _ => by cases h
  | .ins _ _, _, h, _ => by cases h
  | .exc _, _, h, _ => by cases h
  | .gl _, _, h, _ => by cases h
  | _, .dct _, _, h => by cases h
  | _, .ins _ _, _, h => by cases h
  | _, .exc _, _, h => by cases h
  | _, .gl _, _, h => by cases h
  | .scr ns, .lst es, _, h2 => by
    unfold D.plain at h2
    unfold D.py PyData.eqv D.eqv
    exact eqL_ok ns es
  | .lst es, .scr ns, h2, _ => by
    unfold D.plain at h2
    unfold D.py PyData.eqv D.eqv
    exact eqR_ok es ns
  | .scr ns, .scr ms, _, _ => by
    unfold D.py PyData.eqv D.eqv
    exact ints_eqvAll ns ms
  | .scr _, .non, _, _ => by simp [D.py, PyData.eqv, D.eqv]
  | .scr _, .bl _, _, _ => by simp [D.py, PyData.eqv, D.eqv]
  | .scr _, .int _, _, _ => by simp [D.py, PyData.eqv, D.eqv]
  | .scr _, .str _, _, _ => by simp [D.py, PyData.eqv, D.eqv]
  | .scr _, .tup _, _, _ => by simp [D.py, PyData.eqv, D.eqv]
  | .non, .scr _, _, _ => by simp [D.py, PyData.eqv, D.eqv]
  | .bl _, .scr _, _, _ => by simp [D.py, PyData.eqv, D.eqv]
  | .int _, .scr _, _, _ => by simp [D.py, PyData.eqv, D.eqv]
  | .str _, .scr _, _, _ => by simp [D.py, PyData.eqv, D.eqv]
  | .tup _, .scr _, _, _ => by simp [D.py, PyData.eqv, D.eqv]
  | .non, .non, _, _ => by simp [D.py, PyData.eqv, D.eqv]
  | .non, .bl _, _, _ => by simp [D.py, PyData.eqv, D.eqv]
  | .non, .int _, _, _ => by simp [D.py, PyData.eqv, D.eqv]
  | .non, .str _, _, _ => by simp [D.py, PyData.eqv, D.eqv]
  | .non, .tup _, _, _ => by simp [D.py, PyData.eqv, D.eqv]
  | .non, .lst _, _, _ => by simp [D.py, PyData.eqv, D.eqv]
  | .bl _, .non, _, _ => by simp [D.py, PyData.eqv, D.eqv]
  | .bl _, .bl _, _, _ => by simp [D.py, PyData.eqv, D.eqv]
  | .bl _, .int _, _, _ => by simp [D.py, PyData.eqv, D.eqv]
  | .bl _, .str _, _, _ => by simp [D.py, PyData.eqv, D.eqv]
  | .bl _, .tup _, _, _ => by simp [D.py, PyData.eqv, D.eqv]
  | .bl _, .lst _, _, _ => by simp [D.py, PyData.eqv, D.eqv]
  | .int _, .non, _, _ => by simp [D.py, PyData.eqv, D.eqv]
  | .int _, .bl _, _, _ => by simp [D.py, PyData.eqv, D.eqv]
  | .int _, .int _, _, _ => by simp [D.py, PyData.eqv, D.eqv]
  | .int _, .str _, _, _ => by simp [D.py, PyData.eqv, D.eqv]
  | .int _, .tup _, _, _ => by simp [D.py, PyData.eqv, D.eqv]
  | .int _, .lst _, _, _ => by simp [D.py, PyData.eqv, D.eqv]
  | .str _, .non, _, _ => by simp [D.py, PyData.eqv, D.eqv]
  | .str _, .bl _, _, _ => by simp [D.py, PyData.eqv, D.eqv]
  | .str _, .int _, _, _ => by simp [D.py, PyData.eqv, D.eqv]
  | .str _, .str _, _, _ => by simp [D.py, PyData.eqv, D.eqv]
  | .str _, .tup _, _, _ => by simp [D.py, PyData.eqv, D.eqv]
  | .str _, .lst _, _, _ => by simp [D.py, PyData.eqv, D.eqv]
  | .tup _, .non, _, _ => by simp [D.py, PyData.eqv, D.eqv]
  | .tup _, .bl _, _, _ => by simp [D.py, PyData.eqv, D.eqv]
  | .tup _, .int _, _, _ => by simp [D.py, PyData.eqv, D.eqv]
  | .tup _, .str _, _, _ => by simp [D.py, PyData.eqv, D.eqv]
  | .tup _, .lst _, _, _ => by simp [D.py, PyData.eqv, D.eqv]
  | .lst _, .non, _, _ => by simp [D.py, PyData.eqv, D.eqv]
  | .lst _, .bl _, _, _ => by simp [D.py, PyData.eqv, D.eqv]
  | .lst _, .int _, _, _ => by simp [D.py, PyData.eqv, D.eqv]
  | .lst _, .str _, _, _ => by simp [D.py, PyData.eqv, D.eqv]
  | .lst _, .tup _, _, _ => by simp [D.py, PyData.eqv, D.eqv]
theorem pys_eqv : ∀ ds es : List D, D.plains ds = true → D.plains es = true → PyData.eqvAll (D.pys ds) (D.pys es) = D.eqvs ds es
  | [], [], _, _ => rfl
  | [], _ :: _, _, _ => by simp [D.pys, PyData.eqvAll, D.eqvs]
  | _ :: _, [], _, _ => by simp [D.pys, PyData.eqvAll, D.eqvs]
  | d :: ds, e :: es, h1, h2 => by
    unfold D.plains at h1 h2
    have h1' := Bool.and_eq_true_iff.mp h1
    have h2' := Bool.and_eq_true_iff.mp h2
    unfold D.pys PyData.eqvAll D.eqvs
    rw [py_eqv d e h1'.1 h2'.1, pys_eqv ds es h1'.2 h2'.2]
end
section
variable {K : PySem.W.Frag} {mg : Str → Option Value} {H : Hp} {Z : Addr → Prop}
theorem ints_dp : ∀ ns : List Int, DpAll K H (ns.map V.int) (ns.map .int)
  | [] => .nil
  | n :: ns => .cons (.int n) (ints_dp ns)
mutual
theorem FD.dp : ∀ {v : V} {d : D}, FD K mg H Z v d → d.plain = true → Dp K H v (D.py d)
  | _, _, .non, _ => .non
  | _, _, .bl b, _ => .bl b
  | _, _, .int i, _ => .int i
  | _, _, .str x, _ => .str x
  | _, _, .gl _, h => by cases h
  | _, _, .tup h _ r, q => by
    unfold D.plain at q
    exact .tup (sqT_frz h) (FDs.dps r q)
  | _, _, .lst h _ r, q => by
    unfold D.plain at q
    exact .lst (.inl (.inl h)) (FDs.dps r q)
  | _, _, .scr h, _ => .lst h.sq (ints_dp _)
  | _, _, .dct _ _ _, h => by cases h
theorem FDs.dps : ∀ {vs : List V} {ds : List D}, FDs K mg H Z vs ds → D.plains ds = true → DpAll K H vs (D.pys ds)
  | _, _, .nil, _ => .nil
  | _, _, .cons h r, q => by
    unfold D.plains at q
    have q' := Bool.and_eq_true_iff.mp q
    exact .cons (FD.dp h q'.1) (FDs.dps r q'.2)
end
theorem FL.dp {v : V} {d : D} (h : FL K mg H Z v d) (q : d.plain = true) : Dp K H v (D.py d) := by
  rcases h with h | ⟨a, vs, ds, rfl, rfl, h, f⟩ | ⟨a, vs, ds, rfl, rfl, h, f⟩
  · exact h.dp q
  · unfold D.plain at q
    exact .lst (.inl (.inl h)) (f.dps q)
  · cases q
end
def rEqM (K : PySem.W.Frag) (neg : Bool) : R2 := fun x y H Q => ∃ d e, Dp K H x d ∧ Dp K H y e ∧ d.canLay0 = true ∧ e.canLay0 = true ∧ min d.depth e.depth ≤ 60 ∧ Q (.bl (if neg then !PyData.eqv d e else PyData.eqv d e)) H
theorem op_eqM {X : Cx} (hu : X.A.units + 64 < cLine) : OpR X (compareOp .Eq) (rEqM X.K false) := by
  intro pins s σ H x y v u Q I rx ry h
  obtain ⟨d, e, hd, he, c1, c2, hm, q⟩ := h
  obtain ⟨as, r1⟩ := Dp.reads I d x v hd rx
  obtain ⟨bs, r2⟩ := Dp.reads I e y u he ry
  exact PySem.SeqAt.compareEq_reads r1 r2 c1 c2 (by omega) ⟨.bl _, H, I, rfl, q⟩
theorem op_neM {X : Cx} (hu : X.A.units + 64 < cLine) : OpR X (compareOp .NotEq) (rEqM X.K true) := by
  intro pins s σ H x y v u Q I rx ry h
  obtain ⟨d, e, hd, he, c1, c2, hm, q⟩ := h
  obtain ⟨as, r1⟩ := Dp.reads I d x v hd rx
  obtain ⟨bs, r2⟩ := Dp.reads I e y u he ry
  exact PySem.SeqAt.compareNe_reads r1 r2 c1 c2 (by omega) ⟨.bl _, H, I, rfl, q⟩
def rCatL (K : PySem.W.Frag) : R2 := fun x y H Q => ∃ l b xs zs, x = .ref l ∧ y = .ref b ∧ SqL K H l xs ∧ SqL K H b zs ∧ xs.length + zs.length ≤ sizeLine ∧ ∀ p, H p = none → Q (.ref p) (upd H p (.lst (xs ++ zs)))
theorem op_catL {X : Cx} : OpR X (binaryOp .Add) (rCatL X.K) := by
  intro pins s σ H x y v u Q I rx ry h
  obtain ⟨l, b, xs, zs, rfl, rfl, hH, hB, hz, q⟩ := h
  cases rx
  cases ry
  obtain ⟨its, r, ⟨⟨cls, dd, dt, sl⟩, n, hl, hc, hd, hs⟩, _⟩ := I.list hH
  obtain ⟨its2, r2, ⟨⟨cls2, dd2, dt2, sl2⟩, n2, hl2, hc2, hd2, hs2⟩, _⟩ := I.list hB
  simp only at hc hd hs hc2 hd2 hs2
  subst hc hd hs hc2 hd2 hs2
  have e1 := r.length
  have e2 := r2.length
  refine concat_meets ⟨_, hl, rfl⟩ ⟨_, hl2, rfl⟩ noFill_list_add seq_list_add PySem.F.slot_list_add PySem.F.entry_list_add (PySem.F.args_list_add_2 _ _)
    (list_addW l b its.toArray its2.toArray n n2 _ _ sl sl2 (by rw [List.size_toArray, List.size_toArray]; omega)) ⟨hl, hl2, ?_⟩
  have ea : its.toArray ++ its2.toArray = (its ++ its2).toArray := by simp
  rw [ea]
  exact ⟨.ref _, _, I.lnew (t' := s.toks) (r.append r2) (by rw [List.length_append]; omega), rfl, q _ I.fresh⟩
end Py

set_option Elab.async false
set_option linter.all false
set_option maxRecDepth 100000
set_option maxHeartbeats 4000000
/-! PyE: the primitives one by one. -/
namespace Py
open PySem PySem.Spec PyProof.Rows L2
abbrev RP := List V → Hp → VK → Prop
def PrimOk (X : Cx) (p : Prim) (rp : RP) : Prop := ∀ H Z vs ds d o Q, FLs X.K X.mg H Z vs ds → p.run ds = some (d, o) → Ans X.K X.mg H Z d o Q → rp vs H Q
def two (r : R2) : RP
  | [x, y], H, Q => r x y H Q
  | _, _, _ => False
def one (r : V → Hp → VK → Prop) : RP
  | [x], H, Q => r x H Q
  | _, _, _ => False
def three (r : V → V → V → Hp → VK → Prop) : RP
  | [x, y, z], H, Q => r x y z H Q
  | _, _, _ => False
/-- an expression e that does p over the operands es -/
structure PrimR (X : Cx) (e : Expr) (es : List Expr) (p : Prim) : Prop where
  ex : ∃ rp : RP, PE X e (fun τ H Q => WEs X es τ H fun vs H' => rp vs H' Q) ∧ PT X e (fun τ H Q => WEs X es τ H fun vs H' => rp vs H' fun x H'' => ∃ k, x = .bl k ∧ Q k H'') ∧ PrimOk X p rp
/-- tests of such an expression are tests of its value -/
def plainT : Expr → Bool
  | .UnaryOp .Not _ _ => false
  | .BoolOp _ _ _ => false
  | .IfExp _ _ _ _ => false
  | .Compare _ _ _ _ => false
  | _ => true
theorem plainT_eq {e : Expr} (h : plainT e = true) (env : Env) : ∀ whole, isTrue e env whole = (do let v ← whole; standAt e.pos; holding [v] (truthy v)) := by
  intro whole
  cases e with
  | UnaryOp op x pos => cases op <;> first | rfl | cases h
  | BoolOp _ _ _ => cases h
  | IfExp _ _ _ _ => cases h
  | Compare _ _ _ _ => cases h
  | _ => rfl
section
variable {X : Cx} {W : WX} {e : Expr} {es : List Expr} {p : Prim}
theorem PrimR.mk' {rp : RP} (h : PE X e (fun τ H Q => WEs X es τ H fun vs H' => rp vs H' Q)) (ok : PrimOk X p rp) (he : plainT e = true) : PrimR X e es p :=
  ⟨rp, h, pt_val h (plainT_eq he X.env), ok⟩
theorem FLs.nil_inv {K : PySem.W.Frag} {mg : Str → Option Value} {H : Hp} {Z : Addr → Prop} {vs : List V} (h : FLs K mg H Z vs []) : vs = [] := by
  cases h
  rfl
theorem FLs.cons_inv {K : PySem.W.Frag} {mg : Str → Option Value} {H : Hp} {Z : Addr → Prop} {vs : List V} {d : D} {ds : List D} (h : FLs K mg H Z vs (d :: ds)) : ∃ v ws, vs = v :: ws ∧ FL K mg H Z v d ∧ FLs K mg H Z ws ds := by
  cases h with
  | cons h r => exact ⟨_, _, rfl, h, r⟩
theorem FLs.one {K : PySem.W.Frag} {mg : Str → Option Value} {H : Hp} {Z : Addr → Prop} {vs : List V} {d : D} (h : FLs K mg H Z vs [d]) : ∃ v, vs = [v] ∧ FL K mg H Z v d := by
  obtain ⟨v, ws, rfl, h1, h2⟩ := h.cons_inv
  rw [h2.nil_inv]
  exact ⟨v, rfl, h1⟩
theorem FLs.two {K : PySem.W.Frag} {mg : Str → Option Value} {H : Hp} {Z : Addr → Prop} {vs : List V} {d d2 : D} (h : FLs K mg H Z vs [d, d2]) : ∃ v w, vs = [v, w] ∧ FL K mg H Z v d ∧ FL K mg H Z w d2 := by
  obtain ⟨v, ws, rfl, h1, h2⟩ := h.cons_inv
  obtain ⟨w, rfl, h3⟩ := h2.one
  exact ⟨v, w, rfl, h1, h3⟩
theorem FLs.three {K : PySem.W.Frag} {mg : Str → Option Value} {H : Hp} {Z : Addr → Prop} {vs : List V} {d d2 d3 : D} (h : FLs K mg H Z vs [d, d2, d3]) : ∃ v w u, vs = [v, w, u] ∧ FL K mg H Z v d ∧ FL K mg H Z w d2 ∧ FL K mg H Z u d3 := by
  obtain ⟨v, ws, rfl, h1, h2⟩ := h.cons_inv
  obtain ⟨w, u, rfl, h3, h4⟩ := h2.two
  exact ⟨v, w, u, rfl, h1, h3, h4⟩
theorem big_le : big ≤ sizeLine := by rw [sizeLine_eq]; decide
theorem PrimOk.imp {rp rp' : RP} (h : PrimOk X p rp) (k : ∀ vs H Q, rp vs H Q → rp' vs H Q) : PrimOk X p rp' := fun H Z vs ds d o Q f e a => k _ _ _ (h H Z vs ds d o Q f e a)

/-! ### + -/
def rAddAll (K : PySem.W.Frag) : R2 := fun x y H Q => (rI0 fun i j => .int (i + j)) x y H Q ∨ rCatF K x y H Q ∨ rCatL K x y H Q ∨ (∃ i j, x = .str i ∧ y = .str j ∧ i.length + j.length ≤ sizeLine ∧ Q (.str (i ++ j)) H)
theorem op_addAll : OpR X (binaryOp .Add) (rAddAll X.K) := op_add.or (op_catF.or (op_catL.or op_add_str))
theorem fds_nil {K : PySem.W.Frag} {mg : Str → Option Value} {H : Hp} {Z : Addr → Prop} {ds : List D} (h : FDs K mg H Z [] ds) : ds = [] := by
  cases h
  rfl
theorem ok_add : PrimOk X .add (two (rAddAll X.K)) := by
  intro H Z vs ds d o Q f e a
  replace e : p_add ds = some (d, o) := e
  unfold p_add at e
  split at e
  all_goals first | cases e; done | skip
  · rename_i i j
    cases e
    obtain ⟨v, w, rfl, h1, h2⟩ := f.two
    cases h1.int
    cases h2.int
    exact .inl ⟨i, j, rfl, rfl, a.fz (.int _)⟩
  · rename_i x y
    split at e
    · cases e
      obtain ⟨v, w, rfl, h1, h2⟩ := f.two
      obtain ⟨p1, xs, o1, rfl, q1, t1, f1, d1⟩ := h1.tup
      obtain ⟨p2, ys, o2, rfl, q2, t2, f2, d2⟩ := h2.tup
      have l1 := f1.length
      have l2 := f2.length
      have := big_le
      refine .inr (.inl ⟨p1, p2, xs, ys, rfl, rfl, sqT_frz q1, sqT_frz q2, by omega, fun z => ?_, fun _ z => ?_, fun _ _ => a.tup (f1.append f2)⟩)
      · subst z
        rw [fds_nil f1] at a
        exact a.fz d2
      · subst z
        rw [fds_nil f2, List.append_nil] at a
        exact a.fz d1
    · cases e
  · rename_i x y
    split at e
    · cases e
      obtain ⟨v, w, rfl, h1, h2⟩ := f.two
      obtain ⟨p1, xs, rfl, q1, f1⟩ := h1.lst
      obtain ⟨p2, ys, rfl, q2, f2⟩ := h2.lst
      have l1 := f1.length
      have l2 := f2.length
      have := big_le
      exact .inr (.inr (.inl ⟨p1, p2, xs, ys, rfl, rfl, q1, q2, by omega, a.lst (f1.append f2)⟩))
    · cases e
  · rename_i x y
    split at e
    · cases e
      obtain ⟨v, w, rfl, h1, h2⟩ := f.two
      cases h1.str
      cases h2.str
      have := big_le
      exact .inr (.inr (.inr ⟨x, y, rfl, rfl, by omega, a.fz (.str _)⟩))
    · cases e
theorem ok_sub : PrimOk X .sub (two (rI0 fun i j => .int (i - j))) := by
  intro H Z vs ds d o Q f e a
  replace e : p_sub ds = some (d, o) := e
  unfold p_sub at e
  split at e
  all_goals first | cases e; done | skip
  rename_i i j
  cases e
  obtain ⟨v, w, rfl, h1, h2⟩ := f.two
  cases h1.int
  cases h2.int
  exact ⟨i, j, rfl, rfl, a.fz (.int _)⟩
theorem tight_iff {i : Int} (h : tight i = true) : -(2 ^ 64) < i ∧ i < 2 ^ 64 := by
  unfold tight at h
  have h' := Bool.and_eq_true_iff.mp h
  exact ⟨of_decide_eq_true h'.1, of_decide_eq_true h'.2⟩
def rMulAll (K : PySem.W.Frag) : R2 := fun x y H Q => rI CMul (fun i j => .int (i * j)) x y H Q ∨ rRepF K x y H Q ∨ rRep x y H Q
theorem op_mulAll : OpR X (binaryOp .Mult) (rMulAll X.K) := op_mul.or (op_repF.or op_rep)
theorem ok_mul : PrimOk X .mul (two (rMulAll X.K)) := by
  intro H Z vs ds d o Q f e a
  replace e : p_mul ds = some (d, o) := e
  unfold p_mul at e
  split at e
  · rename_i i j
    split at e
    · rename_i ht
      cases e
      obtain ⟨v, w, rfl, h1, h2⟩ := f.two
      cases h1.int
      cases h2.int
      refine .inl ⟨i, j, rfl, rfl, ?_, a.fz (.int _)⟩
      rcases Bool.or_eq_true_iff.mp ht with t | t
      · exact .inl (tight_iff t)
      · exact .inr (tight_iff t)
    · cases e
  · rename_i x k
    split at e
    · rename_i hc
      cases e
      have hc1 := Bool.and_eq_true_iff.mp hc
      have hc2 := Bool.and_eq_true_iff.mp hc1.1
      have c1 : x.length * k.toNat ≤ big := of_decide_eq_true hc2.1
      have c2 : -1000000 ≤ k := of_decide_eq_true hc2.2
      have c3 : k ≤ 1000000 := of_decide_eq_true hc1.2
      obtain ⟨v, w, rfl, h1, h2⟩ := f.two
      obtain ⟨p1, xs, rfl, q1, f1⟩ := h1.lstH
      cases h2.int
      have l1 := f1.length
      have := big_le
      exact .inr (.inr ⟨p1, k, xs, rfl, rfl, q1, by omega, by omega, by rw [l1]; omega, a.lst (f1.rep k.toNat)⟩)
    · cases e
  · rename_i x k
    split at e
    · rename_i hc
      cases e
      have hc1 := Bool.and_eq_true_iff.mp hc
      have hc2 := Bool.and_eq_true_iff.mp hc1.1
      have c1 : x.length * k.toNat ≤ big := of_decide_eq_true hc2.1
      have c2 : -1000000 ≤ k := of_decide_eq_true hc2.2
      have c3 : k ≤ 1000000 := of_decide_eq_true hc1.2
      obtain ⟨v, w, rfl, h1, h2⟩ := f.two
      obtain ⟨p1, xs, o1, rfl, q1, t1, f1, d1⟩ := h1.tup
      cases h2.int
      have l1 := f1.length
      refine .inr (.inl ⟨p1, k, xs, rfl, rfl, sqT_frz q1, by omega, by omega, by rw [l1]; exact c1, fun z => ?_, fun _ => a.tup (f1.rep k.toNat)⟩)
      have e : (List.replicate k.toNat x).flatten = x := by
        rcases z with z | z
        · subst z
          rw [fds_nil f1]
          simp
        · subst z
          simp
      rw [e] at a
      exact a.fz d1
    · cases e
  · cases e
theorem ok_mod : PrimOk X .mod (two (rI (fun _ j => 0 < j) fun i j => .int (i % j))) := by
  intro H Z vs ds d o Q f e a
  replace e : p_mod ds = some (d, o) := e
  unfold p_mod at e
  split at e
  · rename_i i j
    split at e
    · cases e
      obtain ⟨v, w, rfl, h1, h2⟩ := f.two
      cases h1.int
      cases h2.int
      exact ⟨i, j, rfl, rfl, by assumption, a.fz (.int _)⟩
    · cases e
  · cases e
theorem ok_fdiv : PrimOk X .fdiv (two (rI CDiv fun i j => .int (i / j))) := by
  intro H Z vs ds d o Q f e a
  replace e : p_fdiv ds = some (d, o) := e
  unfold p_fdiv at e
  split at e
  · rename_i i j
    split at e
    · cases e
      obtain ⟨v, w, rfl, h1, h2⟩ := f.two
      cases h1.int
      cases h2.int
      exact ⟨i, j, rfl, rfl, by assumption, a.fz (.int _)⟩
    · cases e
  · cases e
theorem ok_pow : PrimOk X .pow (two (rI CPow fun i j => .int (i ^ j.toNat))) := by
  intro H Z vs ds d o Q f e a
  replace e : p_pow ds = some (d, o) := e
  unfold p_pow at e
  split at e
  · rename_i i j
    split at e
    · cases e
      obtain ⟨v, w, rfl, h1, h2⟩ := f.two
      cases h1.int
      cases h2.int
      exact ⟨i, j, rfl, rfl, by assumption, a.fz (.int _)⟩
    · cases e
  · cases e
theorem ok_neg : PrimOk X .neg (one (rU fun i => .int (-i))) := by
  intro H Z vs ds d o Q f e a
  replace e : p_neg ds = some (d, o) := e
  unfold p_neg at e
  split at e
  · rename_i i
    cases e
    obtain ⟨v, rfl, h1⟩ := f.one
    cases h1.int
    exact ⟨i, rfl, a.fz (.int _)⟩
  · cases e
theorem ok_lt : PrimOk X .lt (two (rI0 fun i j => .bl (decide (i < j)))) := by
  intro H Z vs ds d o Q f e a
  replace e : p_lt ds = some (d, o) := e
  unfold p_lt Prim.ints at e
  split at e
  · rename_i i j
    cases e
    obtain ⟨v, w, rfl, h1, h2⟩ := f.two
    cases h1.int
    cases h2.int
    exact ⟨i, j, rfl, rfl, a.fz (.bl _)⟩
  · cases e
theorem ok_le : PrimOk X .le (two (rI0 fun i j => .bl (decide (i ≤ j)))) := by
  intro H Z vs ds d o Q f e a
  replace e : p_le ds = some (d, o) := e
  unfold p_le Prim.ints at e
  split at e
  · rename_i i j
    cases e
    obtain ⟨v, w, rfl, h1, h2⟩ := f.two
    cases h1.int
    cases h2.int
    exact ⟨i, j, rfl, rfl, a.fz (.bl _)⟩
  · cases e
theorem ok_gt : PrimOk X .gt (two (rI0 fun i j => .bl (decide (j < i)))) := by
  intro H Z vs ds d o Q f e a
  replace e : p_gt ds = some (d, o) := e
  unfold p_gt Prim.ints at e
  split at e
  · rename_i i j
    cases e
    obtain ⟨v, w, rfl, h1, h2⟩ := f.two
    cases h1.int
    cases h2.int
    exact ⟨i, j, rfl, rfl, a.fz (.bl _)⟩
  · cases e
theorem ok_ge : PrimOk X .ge (two (rI0 fun i j => .bl (decide (j ≤ i)))) := by
  intro H Z vs ds d o Q f e a
  replace e : p_ge ds = some (d, o) := e
  unfold p_ge Prim.ints at e
  split at e
  · rename_i i j
    cases e
    obtain ⟨v, w, rfl, h1, h2⟩ := f.two
    cases h1.int
    cases h2.int
    exact ⟨i, j, rfl, rfl, a.fz (.bl _)⟩
  · cases e

theorem eq?_inv {a b : D} {c : Bool} (h : a.eq? b = some c) : a.plain = true ∧ b.plain = true ∧ min a.depth b.depth ≤ 60 ∧ c = a.eqv b := by
  unfold D.eq? at h
  split at h
  · rename_i q
    cases h
    have q1 := Bool.and_eq_true_iff.mp q
    have q2 := Bool.and_eq_true_iff.mp q1.1
    exact ⟨q2.1, q2.2, of_decide_eq_true q1.2, rfl⟩
  · cases h
theorem ok_eqne {neg : Bool} {K : PySem.W.Frag} {mg : Str → Option Value} {H : Hp} {Z : Addr → Prop} {v w : V} {x y : D} {c : Bool} {Q : VK} (h1 : FL K mg H Z v x) (h2 : FL K mg H Z w y) (e : x.eq? y = some c) (q : Q (.bl (if neg then !c else c)) H) : rEqM K neg v w H Q := by
  obtain ⟨p1, p2, dp, rfl⟩ := eq?_inv e
  refine ⟨D.py x, D.py y, h1.dp p1, h2.dp p2, py_lay x p1, py_lay y p2, by rw [py_depth, py_depth]; exact dp, ?_⟩
  rw [py_eqv x y p1 p2]
  exact q
theorem ok_eq : PrimOk X .eq (two (rEqM X.K false)) := by
  intro H Z vs ds d o Q f e a
  replace e : p_eq ds = some (d, o) := e
  unfold p_eq at e
  split at e
  · rename_i x y
    cases q : x.eq? y with
    | none => rw [q] at e; cases e
    | some c =>
      rw [q] at e
      cases e
      obtain ⟨v, w, rfl, h1, h2⟩ := f.two
      exact ok_eqne (neg := false) h1 h2 q (a.fz (.bl _))
  · cases e
theorem ok_ne : PrimOk X .ne (two (rEqM X.K true)) := by
  intro H Z vs ds d o Q f e a
  replace e : p_ne ds = some (d, o) := e
  unfold p_ne at e
  split at e
  · rename_i x y
    cases q : x.eq? y with
    | none => rw [q] at e; cases e
    | some c =>
      rw [q] at e
      cases e
      obtain ⟨v, w, rfl, h1, h2⟩ := f.two
      exact ok_eqne (neg := true) h1 h2 q (a.fz (.bl _))
  · cases e
theorem ok_inS {neg : Bool} {K : PySem.W.Frag} {mg : Str → Option Value} {H : Hp} {Z : Addr → Prop} {v w : V} {x : D} {ds : List D} {Q : VK} {p : Addr} {ws : List V} (h1 : FL K mg H Z v x) (hw : w = .ref p) (hs : SqL K H p ws ∨ SqT K H p ws) (hf : FDs K mg H Z ws ds)
    (e : (x.flat && ds.all D.flat) = true) (q : Q (.bl (if neg then !(ds.any fun d => d.eqv x) else ds.any fun d => d.eqv x)) H) : rIn K neg v w H Q := by
  have e' := Bool.and_eq_true_iff.mp e
  obtain ⟨fd, fv⟩ := fd_flat h1 e'.1
  refine ⟨p, ws, hw, hs, fv, hf.flat e'.2, ?_⟩
  rw [inV_of fd e'.1 hf e'.2]
  exact q
theorem ok_in : PrimOk X .in_ (two (rIn X.K false)) := by
  intro H Z vs ds d o Q f e a
  replace e : p_in_ ds = some (d, o) := e
  unfold p_in_ at e
  split at e
  · split at e
    · cases e
      obtain ⟨v, w, rfl, h1, h2⟩ := f.two
      obtain ⟨p1, xs, o1, rfl, q1, t1, f1, d1⟩ := h2.tup
      exact ok_inS (neg := false) h1 rfl (.inr (sqT_frz q1)) f1 (by assumption) (a.fz (.bl _))
    · cases e
  · split at e
    · cases e
      obtain ⟨v, w, rfl, h1, h2⟩ := f.two
      obtain ⟨p1, xs, rfl, q1, f1⟩ := h2.lst
      exact ok_inS (neg := false) h1 rfl (.inl q1) f1 (by assumption) (a.fz (.bl _))
    · cases e
  · cases e
theorem ok_notIn : PrimOk X .notIn (two (rIn X.K true)) := by
  intro H Z vs ds d o Q f e a
  replace e : p_notIn ds = some (d, o) := e
  unfold p_notIn at e
  split at e
  · split at e
    · cases e
      obtain ⟨v, w, rfl, h1, h2⟩ := f.two
      obtain ⟨p1, xs, o1, rfl, q1, t1, f1, d1⟩ := h2.tup
      exact ok_inS (neg := true) h1 rfl (.inr (sqT_frz q1)) f1 (by assumption) (a.fz (.bl _))
    · cases e
  · split at e
    · cases e
      obtain ⟨v, w, rfl, h1, h2⟩ := f.two
      obtain ⟨p1, xs, rfl, q1, f1⟩ := h2.lst
      exact ok_inS (neg := true) h1 rfl (.inl q1) f1 (by assumption) (a.fz (.bl _))
    · cases e
  · cases e
theorem FL.non_iff {K : PySem.W.Frag} {mg : Str → Option Value} {H : Hp} {Z : Addr → Prop} {v : V} {d : D} (h : FL K mg H Z v d) : decide (v = .non) = (match d with | .non => true | _ => false) := by
  rcases h with h | ⟨a, vs, ds, rfl, rfl, _⟩ | ⟨a, vs, ds, rfl, rfl, _⟩
  · cases h <;> rfl
  · rfl
  · rfl
theorem ok_isNone : PrimOk X .isNone (one fun x H Q => Q (.bl (decide (x = .non))) H) := by
  intro H Z vs ds d o Q f e a
  replace e : p_isNone ds = some (d, o) := e
  unfold p_isNone at e
  split at e
  · cases e
    obtain ⟨v, rfl, h1⟩ := f.one
    cases h1.non
    exact a.fz (.bl _)
  · rename_i x hx
    cases e
    obtain ⟨v, rfl, h1⟩ := f.one
    have q := h1.non_iff
    show Q (.bl (decide (v = .non))) H
    rw [q]
    cases x <;> first | exact a.fz (.bl _) | exact absurd rfl hx
  · cases e
theorem ok_notNone : PrimOk X .notNone (one fun x H Q => Q (.bl (!decide (x = .non))) H) := by
  intro H Z vs ds d o Q f e a
  replace e : p_notNone ds = some (d, o) := e
  unfold p_notNone at e
  split at e
  · cases e
    obtain ⟨v, rfl, h1⟩ := f.one
    cases h1.non
    exact a.fz (.bl _)
  · rename_i x hx
    cases e
    obtain ⟨v, rfl, h1⟩ := f.one
    have q := h1.non_iff
    show Q (.bl (!decide (v = .non))) H
    rw [q]
    cases x <;> first | exact a.fz (.bl _) | exact absurd rfl hx
  · cases e
/-! ### places -/
theorem ixN_eq (n : Nat) (i : Int) : ixN n i = L2.ixN n i := rfl
theorem FDs.at {K : PySem.W.Frag} {mg : Str → Option Value} {H : Hp} {Z : Addr → Prop} {vs : List V} {ds : List D} {i : Int} {d : D} (h : FDs K mg H Z vs ds) (e : atI ds i = some d) : ∃ v, L2.atI vs i = some v ∧ FD K mg H Z v d := by
  unfold atI at e
  unfold L2.atI
  rw [h.length]
  cases q : ixN ds.length i with
  | none => rw [q] at e; cases e
  | some j =>
    rw [q] at e
    rw [← ixN_eq, q]
    exact h.get e
theorem ok_idx : PrimOk X .idx (two fun x y H Q => rIxL X.K x y H Q ∨ rIxT X.K x y H Q) := by
  intro H Z vs ds d o Q f e a
  replace e : p_idx ds = some (d, o) := e
  unfold p_idx at e
  split at e
  · rename_i ns i
    cases q : atI ns i with
    | none => rw [q] at e; cases e
    | some z =>
      rw [q] at e
      cases e
      obtain ⟨v, w, rfl, h1, h2⟩ := f.two
      obtain ⟨p1, rfl, q1⟩ := h1.scr
      cases h2.int
      have q2 : L2.atI (ns.map V.int) i = some (.int z) := by
        unfold L2.atI
        unfold atI at q
        rw [List.length_map, ← ixN_eq]
        cases r : ixN ns.length i with
        | none => rw [r] at q; cases q
        | some j =>
          rw [r] at q
          show (ns.map V.int)[j]? = _
          rw [List.getElem?_map, (show ns[j]? = some z from q)]
          rfl
      exact .inl ⟨p1, _, i, _, rfl, rfl, q1, q2, a.fz (.int _)⟩
  · rename_i xs i
    cases q : atI xs i with
    | none => rw [q] at e; cases e
    | some z =>
      rw [q] at e
      cases e
      obtain ⟨v, w, rfl, h1, h2⟩ := f.two
      obtain ⟨p1, ys, o1, rfl, q1, t1, f1, d1⟩ := h1.tup
      cases h2.int
      obtain ⟨u, hu, fd⟩ := f1.at q
      exact .inr ⟨p1, ys, i, u, rfl, rfl, sqT_frz q1, hu, a.fz fd⟩
  · rename_i xs i
    cases q : atI xs i with
    | none => rw [q] at e; cases e
    | some z =>
      rw [q] at e
      cases e
      obtain ⟨v, w, rfl, h1, h2⟩ := f.two
      obtain ⟨p1, ys, rfl, q1, f1⟩ := h1.lst
      cases h2.int
      obtain ⟨u, hu, fd⟩ := f1.at q
      exact .inl ⟨p1, ys, i, u, rfl, rfl, q1, hu, a.fz fd⟩
  · cases e
theorem FDs.cut {K : PySem.W.Frag} {mg : Str → Option Value} {H : Hp} {Z : Addr → Prop} {vs : List V} {ds : List D} (h : FDs K mg H Z vs ds) (lo hi : Option Int) : FDs K mg H Z (cutV vs lo hi) (Py.cut ds lo hi) := by
  unfold cutV Py.cut
  rw [← h.length]
  exact (h.drop _).take _
theorem cut_whole {ds : List D} {lo hi : Option Int} (h : HT.sIx ds.length 0 lo = 0 ∧ HT.sIx ds.length ds.length hi = ds.length) : cut ds lo hi = ds := by
  unfold cut
  have e1 : sIx ds.length 0 lo = 0 := h.1
  have e2 : sIx ds.length ds.length hi = ds.length := h.2
  rw [e1, e2]
  simp
def rSlAll (K : PySem.W.Frag) : V → Option Int → Option Int → Hp → VK → Prop := fun x lo hi H Q => rSlL K x lo hi H Q ∨ rSlF K x lo hi H Q
theorem sl_all : SlR X (rSlAll X.K) := sl_list.or sl_tupF
theorem slT {K : PySem.W.Frag} {mg : Str → Option Value} {H : Hp} {Z : Addr → Prop} {v : V} {ds : List D} {lo hi : Option Int} {Q : VK} (h : FL K mg H Z v (.tup ds)) (a : Ans K mg H Z (.tup (cut ds lo hi)) .fz Q) : rSlAll K v lo hi H Q := by
  obtain ⟨p1, ys, o1, rfl, q1, t1, f1, d1⟩ := h.tup
  have l := f1.length
  refine .inr ⟨p1, ys, rfl, sqT_frz q1, fun z => ?_, fun _ => a.tup (f1.cut lo hi)⟩
  rw [l] at z
  rw [cut_whole z] at a
  exact a.fz d1
theorem slL {K : PySem.W.Frag} {mg : Str → Option Value} {H : Hp} {Z : Addr → Prop} {v : V} {ds : List D} {lo hi : Option Int} {Q : VK} (h : FL K mg H Z v (.lst ds)) (a : Ans K mg H Z (.lst (cut ds lo hi)) (.un .fz) Q) : rSlAll K v lo hi H Q := by
  obtain ⟨p1, ys, rfl, q1, f1⟩ := h.lst
  exact .inl ⟨p1, ys, rfl, q1, a.lst (f1.cut lo hi)⟩
theorem ok_slLo : PrimOk X .slLo (two fun x y H Q => ∃ i, y = .int i ∧ rSlAll X.K x (some i) none H Q) := by
  intro H Z vs ds d o Q f e a
  replace e : p_slLo ds = some (d, o) := e
  unfold p_slLo at e
  split at e
  · cases e
    obtain ⟨v, w, rfl, h1, h2⟩ := f.two
    cases h2.int
    exact ⟨_, rfl, slT h1 a⟩
  · cases e
    obtain ⟨v, w, rfl, h1, h2⟩ := f.two
    cases h2.int
    exact ⟨_, rfl, slL h1 a⟩
  · cases e
theorem ok_slHi : PrimOk X .slHi (two fun x y H Q => ∃ i, y = .int i ∧ rSlAll X.K x none (some i) H Q) := by
  intro H Z vs ds d o Q f e a
  replace e : p_slHi ds = some (d, o) := e
  unfold p_slHi at e
  split at e
  · cases e
    obtain ⟨v, w, rfl, h1, h2⟩ := f.two
    cases h2.int
    exact ⟨_, rfl, slT h1 a⟩
  · cases e
    obtain ⟨v, w, rfl, h1, h2⟩ := f.two
    cases h2.int
    exact ⟨_, rfl, slL h1 a⟩
  · cases e
theorem ok_sl2 : PrimOk X .sl2 (three fun x y z H Q => ∃ i, y = .int i ∧ ∃ j, z = .int j ∧ rSlAll X.K x (some i) (some j) H Q) := by
  intro H Z vs ds d o Q f e a
  replace e : p_sl2 ds = some (d, o) := e
  unfold p_sl2 at e
  split at e
  · cases e
    obtain ⟨v, w, u, rfl, h1, h2, h3⟩ := f.three
    cases h2.int
    cases h3.int
    exact ⟨_, rfl, _, rfl, slT h1 a⟩
  · cases e
    obtain ⟨v, w, u, rfl, h1, h2, h3⟩ := f.three
    cases h2.int
    cases h3.int
    exact ⟨_, rfl, _, rfl, slL h1 a⟩
  · cases e
/-! ### builtin functions -/
theorem ok_len : PrimOk X .len (fun xs H Q => ∃ x n, xs = [x] ∧ LenV X.K x H n ∧ Q (.int n) H) := by
  intro H Z vs ds d o Q f e a
  replace e : p_len ds = some (d, o) := e
  unfold p_len at e
  split at e
  · rename_i ns
    cases e
    obtain ⟨v, rfl, h1⟩ := f.one
    obtain ⟨p1, rfl, q1⟩ := h1.scr
    exact ⟨_, _, rfl, .inl ⟨_, q1, (List.length_map _).symm⟩, a.fz (.int _)⟩
  · cases e
    obtain ⟨v, rfl, h1⟩ := f.one
    obtain ⟨p1, ys, o1, rfl, q1, t1, f1, d1⟩ := h1.tup
    exact ⟨_, _, rfl, .inr ⟨ys, sqT_frz q1, f1.length.symm⟩, a.fz (.int _)⟩
  · cases e
    obtain ⟨v, rfl, h1⟩ := f.one
    obtain ⟨p1, ys, rfl, q1, f1⟩ := h1.lst
    exact ⟨_, _, rfl, .inl ⟨ys, q1, f1.length.symm⟩, a.fz (.int _)⟩
  · cases e
theorem ok_tuple : PrimOk X .tuple (fun xs H Q => ∃ p ys, xs = [.ref p] ∧ ((SqL X.K H p ys ∧ NewT H ys Q) ∨ (SqT X.K H p ys ∧ Q (.ref p) H))) := by
  intro H Z vs ds d o Q f e a
  replace e : p_tuple ds = some (d, o) := e
  unfold p_tuple at e
  split at e
  · cases e
    obtain ⟨v, rfl, h1⟩ := f.one
    obtain ⟨p1, ys, o1, rfl, q1, t1, f1, d1⟩ := h1.tup
    exact ⟨p1, ys, rfl, .inr ⟨sqT_frz q1, a.fz d1⟩⟩
  · cases e
    obtain ⟨v, rfl, h1⟩ := f.one
    obtain ⟨p1, ys, rfl, q1, f1⟩ := h1.lst
    exact ⟨p1, ys, rfl, .inl ⟨q1, a.tup f1⟩⟩
  · cases e
theorem ok_list : PrimOk X .list (fun xs H Q => ∃ p ys, xs = [.ref p] ∧ (SqL X.K H p ys ∨ SqT X.K H p ys) ∧ ∀ l, H l = none → Q (.ref l) (upd H l (.lst ys))) := by
  intro H Z vs ds d o Q f e a
  replace e : p_list ds = some (d, o) := e
  unfold p_list at e
  split at e
  · cases e
    obtain ⟨v, rfl, h1⟩ := f.one
    obtain ⟨p1, ys, o1, rfl, q1, t1, f1, d1⟩ := h1.tup
    exact ⟨p1, ys, rfl, .inr (sqT_frz q1), a.lst f1⟩
  · cases e
    obtain ⟨v, rfl, h1⟩ := f.one
    obtain ⟨p1, ys, rfl, q1, f1⟩ := h1.lst
    exact ⟨p1, ys, rfl, .inl q1, a.lst f1⟩
  · cases e
theorem ok_sum : PrimOk X .sum (rSum X.K) := by
  intro H Z vs ds d o Q f e a
  replace e : p_sum ds = some (d, o) := e
  unfold p_sum at e
  split at e
  · rename_i xs
    cases q : D.ints? xs with
    | none => rw [q] at e; cases e
    | some ns =>
      rw [q] at e
      cases e
      obtain ⟨v, rfl, h1⟩ := f.one
      obtain ⟨p1, ys, rfl, q1, f1⟩ := h1.lst
      rw [f1.ints q] at q1
      exact ⟨p1, ns, rfl, q1, a.fz (.int _)⟩
  · cases e
theorem ok_all : PrimOk X .all_ (rAll X.K) := by
  intro H Z vs ds d o Q f e a
  replace e : p_all_ ds = some (d, o) := e
  unfold p_all_ at e
  split at e
  · rename_i xs
    cases q : D.bools? xs with
    | none => rw [q] at e; cases e
    | some ns =>
      rw [q] at e
      cases e
      obtain ⟨v, rfl, h1⟩ := f.one
      obtain ⟨p1, ys, rfl, q1, f1⟩ := h1.lst
      rw [f1.bools q] at q1
      exact ⟨p1, ns, rfl, q1, a.fz (.bl _)⟩
  · cases e
theorem ok_any : PrimOk X .any_ (rAny X.K) := by
  intro H Z vs ds d o Q f e a
  replace e : p_any_ ds = some (d, o) := e
  unfold p_any_ at e
  split at e
  · rename_i xs
    cases q : D.bools? xs with
    | none => rw [q] at e; cases e
    | some ns =>
      rw [q] at e
      cases e
      obtain ⟨v, rfl, h1⟩ := f.one
      obtain ⟨p1, ys, rfl, q1, f1⟩ := h1.lst
      rw [f1.bools q] at q1
      exact ⟨p1, ns, rfl, q1, a.fz (.bl _)⟩
  · cases e
theorem ok_max2 : PrimOk X .max2 (fun xs H Q => ∃ i j, xs = [.int i, .int j] ∧ Q (.int (if j > i then j else i)) H) := by
  intro H Z vs ds d o Q f e a
  replace e : p_max2 ds = some (d, o) := e
  unfold p_max2 at e
  split at e
  · cases e
    obtain ⟨v, w, rfl, h1, h2⟩ := f.two
    cases h1.int
    cases h2.int
    exact ⟨_, _, rfl, a.fz (.int _)⟩
  · cases e
theorem ok_min2 : PrimOk X .min2 (fun xs H Q => ∃ i j, xs = [.int i, .int j] ∧ Q (.int (if j < i then j else i)) H) := by
  intro H Z vs ds d o Q f e a
  replace e : p_min2 ds = some (d, o) := e
  unfold p_min2 at e
  split at e
  · cases e
    obtain ⟨v, w, rfl, h1, h2⟩ := f.two
    cases h1.int
    cases h2.int
    exact ⟨_, _, rfl, a.fz (.int _)⟩
  · cases e
theorem maxL_spec : ∀ (r : List Int) (m : Int), (maxL m r = m ∨ maxL m r ∈ r) ∧ m ≤ maxL m r ∧ ∀ y ∈ r, y ≤ maxL m r
  | [], m => ⟨.inl rfl, Int.le_refl _, fun y h => by cases h⟩
  | x :: r, m => by
    obtain ⟨h1, h2, h3⟩ := maxL_spec r (if x > m then x else m)
    have e : maxL m (x :: r) = maxL (if x > m then x else m) r := rfl
    rw [e]
    refine ⟨?_, ?_, fun y hy => ?_⟩
    · rcases h1 with h1 | h1
      · rw [h1]
        split
        · exact .inr List.mem_cons_self
        · exact .inl rfl
      · exact .inr (List.mem_cons_of_mem _ h1)
    · exact Int.le_trans (by split <;> omega) h2
    · rcases List.mem_cons.mp hy with rfl | hy
      · exact Int.le_trans (by split <;> omega) h2
      · exact h3 y hy
theorem minL_spec : ∀ (r : List Int) (m : Int), (minL m r = m ∨ minL m r ∈ r) ∧ minL m r ≤ m ∧ ∀ y ∈ r, minL m r ≤ y
  | [], m => ⟨.inl rfl, Int.le_refl _, fun y h => by cases h⟩
  | x :: r, m => by
    obtain ⟨h1, h2, h3⟩ := minL_spec r (if x < m then x else m)
    have e : minL m (x :: r) = minL (if x < m then x else m) r := rfl
    rw [e]
    refine ⟨?_, ?_, fun y hy => ?_⟩
    · rcases h1 with h1 | h1
      · rw [h1]
        split
        · exact .inr List.mem_cons_self
        · exact .inl rfl
      · exact .inr (List.mem_cons_of_mem _ h1)
    · exact Int.le_trans h2 (by split <;> omega)
    · rcases List.mem_cons.mp hy with rfl | hy
      · exact Int.le_trans h2 (by split <;> omega)
      · exact h3 y hy
theorem ok_max1 : PrimOk X .max1 (rMax X.K) := by
  intro H Z vs ds d o Q f e a
  replace e : p_max1 ds = some (d, o) := e
  unfold p_max1 at e
  split at e
  · rename_i xs
    split at e
    · rename_i x r q
      cases e
      obtain ⟨v, rfl, h1⟩ := f.one
      obtain ⟨p1, ys, rfl, q1, f1⟩ := h1.lst
      rw [f1.ints q] at q1
      refine ⟨p1, x :: r, rfl, q1, by simp, fun m hm hle => ?_⟩
      obtain ⟨s1, s2, s3⟩ := maxL_spec r x
      have e : m = maxL x r := by
        have a1 : m ≤ maxL x r := by
          rcases List.mem_cons.mp hm with rfl | hm
          · exact s2
          · exact s3 m hm
        have a2 : maxL x r ≤ m := by
          rcases s1 with s1 | s1
          · rw [s1]; exact hle x List.mem_cons_self
          · exact hle _ (List.mem_cons_of_mem _ s1)
        omega
      rw [e]
      exact a.fz (.int _)
    · cases e
  · cases e
theorem ok_min1 : PrimOk X .min1 (rMin X.K) := by
  intro H Z vs ds d o Q f e a
  replace e : p_min1 ds = some (d, o) := e
  unfold p_min1 at e
  split at e
  · rename_i xs
    split at e
    · rename_i x r q
      cases e
      obtain ⟨v, rfl, h1⟩ := f.one
      obtain ⟨p1, ys, rfl, q1, f1⟩ := h1.lst
      rw [f1.ints q] at q1
      refine ⟨p1, x :: r, rfl, q1, by simp, fun m hm hle => ?_⟩
      obtain ⟨s1, s2, s3⟩ := minL_spec r x
      have e : m = minL x r := by
        have a1 : minL x r ≤ m := by
          rcases List.mem_cons.mp hm with rfl | hm
          · exact s2
          · exact s3 m hm
        have a2 : m ≤ minL x r := by
          rcases s1 with s1 | s1
          · rw [s1]; exact hle x List.mem_cons_self
          · exact hle _ (List.mem_cons_of_mem _ s1)
        omega
      rw [e]
      exact a.fz (.int _)
    · cases e
  · cases e
theorem ok_abs : PrimOk X .abs (fun xs H Q => ∃ i, xs = [.int i] ∧ Q (.int (if i < 0 then -i else i)) H) := by
  intro H Z vs ds d o Q f e a
  replace e : p_abs ds = some (d, o) := e
  unfold p_abs at e
  split at e
  · cases e
    obtain ⟨v, rfl, h1⟩ := f.one
    cases h1.int
    exact ⟨_, rfl, a.fz (.int _)⟩
  · cases e
theorem ok_int : PrimOk X .int_ (fun xs H Q => (∃ i, xs = [.int i] ∧ Q (.int i) H) ∨ ∃ k, xs = [.bl k] ∧ Q (.int (if k then 1 else 0)) H) := by
  intro H Z vs ds d o Q f e a
  replace e : p_int_ ds = some (d, o) := e
  unfold p_int_ at e
  split at e
  · cases e
    obtain ⟨v, rfl, h1⟩ := f.one
    cases h1.int
    exact .inl ⟨_, rfl, a.fz (.int _)⟩
  · cases e
    obtain ⟨v, rfl, h1⟩ := f.one
    cases h1.bl
    exact .inr ⟨_, rfl, a.fz (.int _)⟩
  · cases e
/-! ### isinstance -/
theorem SF.ty {K : PySem.W.Frag} {H : Hp} {a : Addr} {ns : List Int} (h : SF K H a ns) : TyX K H (.ref a) (.type "list") := by
  rcases h with ⟨o, h⟩ | ⟨o, its, n, h, hc, _⟩
  · exact .base (.frz h)
  · exact .kList h hc
/-- the type's name of plain data -/
def D.ty : D → String
  | .non => "NoneType" | .bl _ => "bool" | .int _ => "int" | .str _ => "str" | .tup _ => "tuple" | .lst _ => "list" | .scr _ => "list" | .dct _ => "dict" | _ => "?"
theorem FL.ty {K : PySem.W.Frag} {mg : Str → Option Value} {H : Hp} {Z : Addr → Prop} {v : V} {d : D} (h : FL K mg H Z v d) (p : d.plain = true) : TyX K H v (.type d.ty) := by
  rcases h with h | ⟨a, vs, ds, rfl, rfl, q, _⟩ | ⟨a, vs, ds, rfl, rfl, q, _⟩
  · cases h with
    | non => exact .base .non
    | bl b => exact .base (.bl b)
    | int i => exact .base (.int i)
    | str x => exact .base (.str x)
    | gl _ => cases p
    | tup h _ _ => exact .fTuple h
    | lst h _ _ => exact .base (.lst h)
    | scr h => exact h.ty
    | dct _ _ _ => cases p
  · exact .base (.lst q)
  · cases p
def rIs (K : PySem.W.Frag) (c : String) : RP := one fun x H Q => rIsi K [x, .ty c] H Q
theorem is_of {K : PySem.W.Frag} {mg : Str → Option Value} {H : Hp} {Z : Addr → Prop} {v : V} {d : D} {c : String} {b : Bool} {Q : VK} (h : FL K mg H Z v d) (p : d.plain = true) (k : kitB d.ty c = some b) (q : Q (.bl b) H) : rIsi K [v, .ty c] H Q :=
  ⟨v, .ty c, .type d.ty, .type c, b, rfl, .ty c, h.ty p, kit_ty k, q⟩
theorem ok_isInt : PrimOk X .isInt (rIs X.K "int") := by
  intro H Z vs ds d o Q f e a
  replace e : p_isInt ds = some (d, o) := e
  unfold p_isInt at e
  split at e
  · cases e
    obtain ⟨v, rfl, h1⟩ := f.one
    exact is_of (d := .int _) h1 rfl (show kitB "int" "int" = some true by decide +kernel) (a.fz (.bl _))
  · cases e
    obtain ⟨v, rfl, h1⟩ := f.one
    exact is_of (d := .bl _) h1 rfl (show kitB "bool" "int" = some true by decide +kernel) (a.fz (.bl _))
  · cases e
  · rename_i x hx hx2 hx3
    split at e
    · rename_i hpl
      cases e
      obtain ⟨v, rfl, h1⟩ := f.one
      refine is_of h1 hpl ?_ (a.fz (.bl _))
      clear f h1 a
      cases x with
      | non => show kitB "NoneType" _ = some false; decide +kernel
      | bl b => first | exact (hx b rfl).elim | exact (hx2 b rfl).elim | (show kitB "bool" _ = some false; decide +kernel)
      | int b => first | exact (hx b rfl).elim | (show kitB "int" _ = some false; decide +kernel)
      | str b => first | exact (hx b rfl).elim | (show kitB "str" _ = some false; decide +kernel)
      | tup b => first | exact (hx b rfl).elim | (show kitB "tuple" _ = some false; decide +kernel)
      | lst b => first | exact (hx b rfl).elim | (show kitB "list" _ = some false; decide +kernel)
      | scr b => exact (hx3 b rfl).elim
      | _ => cases hpl
    · cases e
  · cases e
theorem ok_isBool : PrimOk X .isBool (rIs X.K "bool") := by
  intro H Z vs ds d o Q f e a
  replace e : p_isBool ds = some (d, o) := e
  unfold p_isBool at e
  split at e
  · cases e
    obtain ⟨v, rfl, h1⟩ := f.one
    exact is_of (d := .bl _) h1 rfl (show kitB "bool" "bool" = some true by decide +kernel) (a.fz (.bl _))
  · cases e
  · rename_i x hx hx3
    split at e
    · rename_i hpl
      cases e
      obtain ⟨v, rfl, h1⟩ := f.one
      refine is_of h1 hpl ?_ (a.fz (.bl _))
      clear f h1 a
      cases x with
      | non => show kitB "NoneType" _ = some false; decide +kernel
      | bl b => first | exact (hx b rfl).elim | exact (hx2 b rfl).elim | (show kitB "bool" _ = some false; decide +kernel)
      | int b => first | exact (hx b rfl).elim | (show kitB "int" _ = some false; decide +kernel)
      | str b => first | exact (hx b rfl).elim | (show kitB "str" _ = some false; decide +kernel)
      | tup b => first | exact (hx b rfl).elim | (show kitB "tuple" _ = some false; decide +kernel)
      | lst b => first | exact (hx b rfl).elim | (show kitB "list" _ = some false; decide +kernel)
      | scr b => exact (hx3 b rfl).elim
      | _ => cases hpl
    · cases e
  · cases e
theorem ok_isTuple : PrimOk X .isTuple (rIs X.K "tuple") := by
  intro H Z vs ds d o Q f e a
  replace e : p_isTuple ds = some (d, o) := e
  unfold p_isTuple at e
  split at e
  · cases e
    obtain ⟨v, rfl, h1⟩ := f.one
    obtain ⟨p1, ys, o1, rfl, q1, t1, f1, d1⟩ := h1.tup
    exact ⟨_, .ty "tuple", .type "tuple", .type "tuple", true, rfl, .ty _, .fTuple q1, kit_ty (by decide +kernel), a.fz (.bl _)⟩
  · cases e
  · rename_i x hx hx3
    split at e
    · rename_i hpl
      cases e
      obtain ⟨v, rfl, h1⟩ := f.one
      refine is_of h1 hpl ?_ (a.fz (.bl _))
      clear f h1 a
      cases x with
      | non => show kitB "NoneType" _ = some false; decide +kernel
      | bl b => first | exact (hx b rfl).elim | exact (hx2 b rfl).elim | (show kitB "bool" _ = some false; decide +kernel)
      | int b => first | exact (hx b rfl).elim | (show kitB "int" _ = some false; decide +kernel)
      | str b => first | exact (hx b rfl).elim | (show kitB "str" _ = some false; decide +kernel)
      | tup b => first | exact (hx b rfl).elim | (show kitB "tuple" _ = some false; decide +kernel)
      | lst b => first | exact (hx b rfl).elim | (show kitB "list" _ = some false; decide +kernel)
      | scr b => exact (hx3 b rfl).elim
      | _ => cases hpl
    · cases e
  · cases e
theorem ok_isStr : PrimOk X .isStr (rIs X.K "str") := by
  intro H Z vs ds d o Q f e a
  replace e : p_isStr ds = some (d, o) := e
  unfold p_isStr at e
  split at e
  · cases e
    obtain ⟨v, rfl, h1⟩ := f.one
    cases h1.str
    exact ⟨_, .ty "str", .type "str", .type "str", true, rfl, .ty _, .base (.str _), kit_ty (by decide +kernel), a.fz (.bl _)⟩
  · cases e
  · rename_i x hx hx3
    split at e
    · rename_i hpl
      cases e
      obtain ⟨v, rfl, h1⟩ := f.one
      refine is_of h1 hpl ?_ (a.fz (.bl _))
      clear f h1 a
      cases x with
      | non => show kitB "NoneType" _ = some false; decide +kernel
      | bl b => first | exact (hx b rfl).elim | exact (hx2 b rfl).elim | (show kitB "bool" _ = some false; decide +kernel)
      | int b => first | exact (hx b rfl).elim | (show kitB "int" _ = some false; decide +kernel)
      | str b => first | exact (hx b rfl).elim | (show kitB "str" _ = some false; decide +kernel)
      | tup b => first | exact (hx b rfl).elim | (show kitB "tuple" _ = some false; decide +kernel)
      | lst b => first | exact (hx b rfl).elim | (show kitB "list" _ = some false; decide +kernel)
      | scr b => exact (hx3 b rfl).elim
      | _ => cases hpl
    · cases e
  · cases e
theorem ok_isList : PrimOk X .isList (rIs X.K "list") := by
  intro H Z vs ds d o Q f e a
  replace e : p_isList ds = some (d, o) := e
  unfold p_isList at e
  split at e
  · cases e
    obtain ⟨v, rfl, h1⟩ := f.one
    have ht : TyX X.K H v (.type "list") := by
      rcases h1 with h | ⟨p, ys, zs, rfl, z, q, _⟩ | ⟨p, ys, zs, rfl, z, q, _⟩
      · cases h with
        | lst h _ _ => exact .base (.lst h)
      · exact .base (.lst q)
      · cases z
    exact ⟨_, .ty "list", .type "list", .type "list", true, rfl, .ty _, ht, kit_ty (by decide +kernel), a.fz (.bl _)⟩
  · cases e
  · rename_i x hx hx3
    split at e
    · rename_i hpl
      cases e
      obtain ⟨v, rfl, h1⟩ := f.one
      refine is_of h1 hpl ?_ (a.fz (.bl _))
      clear f h1 a
      cases x with
      | non => show kitB "NoneType" _ = some false; decide +kernel
      | bl b => first | exact (hx b rfl).elim | exact (hx2 b rfl).elim | (show kitB "bool" _ = some false; decide +kernel)
      | int b => first | exact (hx b rfl).elim | (show kitB "int" _ = some false; decide +kernel)
      | str b => first | exact (hx b rfl).elim | (show kitB "str" _ = some false; decide +kernel)
      | tup b => first | exact (hx b rfl).elim | (show kitB "tuple" _ = some false; decide +kernel)
      | lst b => first | exact (hx b rfl).elim | (show kitB "list" _ = some false; decide +kernel)
      | scr b => exact (hx3 b rfl).elim
      | _ => cases hpl
    · cases e
  · cases e
end
end Py

set_option Elab.async false
set_option linter.all false
set_option maxRecDepth 100000
set_option maxHeartbeats 4000000
/-! PyF: expressions made of expressions. -/
namespace Py
open PySem PySem.Spec PyProof.Rows L2
section
variable {X : Cx} {W : WX} {e a b c : Expr} {es : List Expr} {p : Prim}
/-! ### operations -/
theorem vo_run {m : M (List AV)} {rp : RP} (hs : VA X W es m) (ok : PrimOk X p rp) {τ : L2.St} {H : Hp} {Z : Addr → Prop} {fp : List Addr} {σ : Fr} {Q : VK} (r : RSl X.K X.mg H Z σ τ fp) (k : Ok H Z fp)
    (hp : Post X W τ H Z fp (kV1 X τ H Z fp Q) ((m.bind fun as σ => match rds σ as with
    | some ds => M.of (p.run ds) σ
    | none => .bad) σ)) : WEs X es τ H fun vs H' => rp vs H' Q := by
  refine hs τ H Z fp σ _ r k (hp.bind.mono fun as σ1 q => ?_)
  intro vs H1 Z1 f g s1 k1 ras rs
  cases e1 : rds σ1 as with
  | none => rw [e1] at q; exact q.elim
  | some ds =>
    rw [e1] at q
    dsimp only [M.of] at q
    cases e2 : p.run ds with
    | none => rw [e2] at q; exact q.elim
    | some x =>
      rw [e2] at q
      obtain ⟨d, o⟩ := x
      refine ok H1 Z1 vs ds d o Q (ras.fls rs e1) e2 fun v H2 f2 ex ra => ?_
      have kg := k1.right
      obtain ⟨s2, k2⟩ := ex.step kg
      refine q v H2 Z1 f2 g (s1.trans ((s2.more fun x h => List.mem_append_right _ h))) k2 ra (rs.stay ex.stays fun x h u hu => ex.1 x u hu)
theorem ve_op {m : M (List AV)} (hs : VA X W es m) (h : PrimR X e es p) : VE X W e (m.bind fun as σ => match rds σ as with
    | some ds => M.of (p.run ds) σ
    | none => .bad) := by
  intro τ H Z fp σ Q r k hp
  obtain ⟨rp, pe, pt, ok⟩ := h.ex
  exact WE.of pe (vo_run hs ok r k hp)
theorem Post.bindOf {α β : Type} {τ : L2.St} {H : Hp} {Z : Addr → Prop} {fp : List Addr} {k : β → Fr → Prop} {m : M α} {f : α → Option β} {σ : Fr} (h : Post X W τ H Z fp k ((m.bind fun v => M.of (f v)) σ)) :
    Post X W τ H Z fp (fun a σ' => ∃ b, f a = some b ∧ k b σ') (m σ) := by
  refine h.bind.mono fun a σ' q => ?_
  unfold M.of at q
  cases e : f a with
  | none => rw [e] at q; exact q.elim
  | some b => rw [e] at q; exact ⟨b, rfl, q⟩
theorem boolV_inv {v : Val} {b : Bool} (h : boolV v = some b) : v.1 = .bl b := by
  obtain ⟨d, o⟩ := v
  unfold boolV at h
  split at h
  · rename_i c _ e
    cases e
    cases h
    rfl
  · cases h
theorem R.bl {K : PySem.W.Frag} {mg : Str → Option Value} {H : Hp} {Z : Addr → Prop} {o : Own} {v : V} {b : Bool} {f : List Addr} (h : R K mg H Z o v (.bl b) f) : v = .bl b := by
  cases o with
  | fz => exact (show FL K mg H Z v (.bl b) from .inl (R.fz_iff.mp h).2).bl
  | un c => unfold R at h; obtain ⟨_, _, _, _, ⟨_, _, e, _⟩ | ⟨_, _, e, _⟩⟩ := h <;> cases e
  | tu c => unfold R at h; obtain ⟨_, _, _, _, _, e, _⟩ := h; cases e
  | rc _ => unfold R at h; exact h.elim
  | nl => unfold R at h; exact h.elim
  | cn _ _ => unfold R at h; exact h.elim
theorem vt_of_kV {τ : L2.St} {H : Hp} {Z : Addr → Prop} {fp : List Addr} {Q : Bool → Hp → Prop} {v : Val} {σ' : Fr} (q : ∃ b, boolV v = some b ∧ kT1 X τ H Z fp Q b σ') : kV1 X τ H Z fp (fun x H'' => ∃ k, x = .bl k ∧ Q k H'') v σ' := by
  obtain ⟨b, e, q⟩ := q
  intro w H' Z' f g s1 k1 ra rs
  rw [boolV_inv e] at ra
  exact ⟨b, ra.bl, q H' Z' g (s1.less fun x h => List.mem_append_right _ h) k1.right rs⟩
theorem vt_op {m : M (List AV)} (hs : VA X W es m) (h : PrimR X e es p) : VT X W e ((m.bind fun as σ => match rds σ as with
    | some ds => M.of (p.run ds) σ
    | none => .bad).bind fun v => M.of (boolV v)) := by
  intro τ H Z fp σ Q r k hp
  obtain ⟨rp, pe, pt, ok⟩ := h.ex
  exact WT.of pt (vo_run hs ok r k (hp.bindOf.mono fun v σ' q => vt_of_kV q))
/-- any plain expression, as a test -/
theorem vt_val {m : M Val} (h : VE X W e m) (he : plainT e = true) : VT X W e (m.bind fun v => M.of (boolV v)) := by
  intro τ H Z fp σ Q r k hp
  exact WT.of (pt_val (peW X e) (plainT_eq he X.env)) (h τ H Z fp σ _ r k (hp.bindOf.mono fun v σ' q => vt_of_kV q))
/-! ### displays -/
theorem RVs.length {K : PySem.W.Frag} {mg : Str → Option Value} {H : Hp} {Z : Addr → Prop} : ∀ {as : List Val} {vs : List V} {f : List Addr}, RVs K mg H Z as vs f → vs.length = as.length
  | _, _, _, .nil => rfl
  | _, _, _, .cons _ r => by rw [List.length_cons, List.length_cons, RVs.length r]
theorem RVs.rt {K : PySem.W.Frag} {mg : Str → Option Value} {H : Hp} {Z : Addr → Prop} : ∀ {as : List Val} {vs : List V} {f : List Addr}, RVs K mg H Z as vs f → RT K mg H Z (ownT as) vs (as.map (·.1)) f
  | _, _, _, .nil => by unfold ownT RT; exact ⟨rfl, rfl, rfl⟩
  | _, _, _, .cons h r => by
    unfold ownT RT
    exact ⟨_, _, _, _, _, _, rfl, rfl, rfl, h, RVs.rt r⟩
theorem RVs.fz {K : PySem.W.Frag} {mg : Str → Option Value} {H : Hp} {Z : Addr → Prop} : ∀ {as : List Val} {vs : List V} {f : List Addr}, RVs K mg H Z as vs f → as.all (fun v => decide (v.2 = .fz)) = true → f = [] ∧ FDs K mg H Z vs (as.map (·.1))
  | _, _, _, .nil, _ => ⟨rfl, .nil⟩
  | _, _, _, .cons (o := o) h r, e => by
    rw [List.all_cons] at e
    have e' := Bool.and_eq_true_iff.mp e
    have eo : o = .fz := of_decide_eq_true e'.1
    subst eo
    obtain ⟨rfl, fd⟩ := R.fz_iff.mp h
    obtain ⟨rfl, fs⟩ := RVs.fz r e'.2
    exact ⟨rfl, .cons fd fs⟩
theorem ve_tup {m : M (List Val)} {k0 : Nat} {pos : Pos} (hs : VL X W es m) (hn : es.all noStar = true) : VE X W (.Tuple es k0 pos) (m.bind fun vs => if vs.length ≤ big then M.pure (tupV vs) else M.bad) := by
  intro τ H Z fp σ Q r k hp
  refine WE.of (pe_tupF (paW X es hn)) (hs τ H Z fp σ _ r k (hp.bind.mono fun as σ1 q => ?_))
  intro vs H1 Z1 f g s1 k1 rvs rs
  split at q
  · rename_i hl
    have := big_le
    refine ⟨by rw [rvs.length]; omega, fun p o hp to => ?_⟩
    replace q : kV1 X τ H Z fp Q (tupV as) σ1 := q
    have ex : Ext H1 (upd H1 p (.frz o (.tup vs))) [] := ⟨upd_ext hp, .inl rfl⟩
    obtain ⟨s2, k2⟩ := ex.step k1
    have rs' := rs.stay ex.stays fun x h u hu => ex.1 x u hu
    unfold tupV at q
    split at q
    · rename_i hall
      obtain ⟨rfl, fds⟩ := rvs.fz hall
      exact q (.ref p) _ Z1 [] g (s1.trans s2) k2 (R.of_fd (.tup upd_same to (fds.stay ex.stays))) rs'
    · refine q (.ref p) _ Z1 f g (s1.trans s2) k2 ?_ rs'
      unfold R
      exact ⟨p, vs, as.map (·.1), o, rfl, rfl, upd_same, to, rvs.rt.stay ex.stays _ fun x h u hu => ex.1 x u hu⟩
  · exact q.elim
theorem RVs.all3 {K : PySem.W.Frag} {mg : Str → Option Value} {H : Hp} {Z : Addr → Prop} {c : Own} (hc : c ≠ .fz) : ∀ {as : List Val} {vs : List V} {f : List Addr} {ds : List D}, RVs K mg H Z as vs f → lstV c as = some ds → All3 (R K mg H Z c) vs ds f
  | _, _, _, ds, .nil, e => by
    unfold lstV at e
    cases e
    exact .nil
  | _, _, _, ds, .cons (d := d) (o := o) (as := as) h r, e => by
    unfold lstV itemV at e
    rw [if_neg hc] at e
    dsimp only at e
    by_cases ho : o = c
    · subst ho
      rw [if_pos rfl] at e
      cases q : lstV o as with
      | none => rw [q] at e; cases e
      | some ds' =>
        rw [q] at e
        cases e
        exact .cons h (RVs.all3 hc r q)
    · rw [if_neg ho] at e
      cases e
theorem lstV_fz : ∀ as : List Val, lstV .fz as = some (as.map (·.1))
  | [] => rfl
  | v :: r => by
    unfold lstV itemV
    rw [if_pos rfl, lstV_fz r]
    rfl
theorem RVs.frz {K : PySem.W.Frag} {mg : Str → Option Value} {H : Hp} {Z Z' : Addr → Prop} (zs : ∀ a, Z a → Z' a) : ∀ {as : List Val} {vs : List V} {f : List Addr}, RVs K mg H Z as vs f → (∀ a ∈ f, Z' a) → FDs K mg H Z' vs (as.map (·.1))
  | _, _, _, .nil, _ => .nil
  | _, _, _, .cons h r, k => .cons (h.frz _ (fun a q => k a (List.mem_append_left _ q)) zs) (RVs.frz zs r fun a q => k a (List.mem_append_right _ q))
theorem ve_lst {m : M (List Val)} {c : Own} {pos : Pos} (hs : VL X W es m) (hn : es.all noStar = true) : VE X W (.List es pos) (m.bind fun vs => M.of (if vs.length ≤ big then (lstV c vs).map fun ds => (.lst ds, .un c) else none)) := by
  intro τ H Z fp σ Q r k hp
  refine WE.of (pe_lst (paW X es hn)) (hs τ H Z fp σ _ r k (hp.bind.mono fun as σ1 q => ?_))
  intro vs H1 Z1 f g s1 k1 rvs rs
  unfold M.of at q
  split at q
  · rename_i x hx
    replace q : kV1 X τ H Z fp Q x σ1 := q
    split at hx
    · rename_i hl
      have := big_le
      refine ⟨by rw [rvs.length]; omega, fun p hpn => ?_⟩
      cases e1 : lstV c as with
      | none => rw [e1] at hx; cases hx
      | some ds =>
        rw [e1] at hx
        cases hx
        by_cases hc : c = .fz
        · subst hc
          rw [lstV_fz] at e1
          cases e1
          obtain ⟨s2, k2⟩ := frz_step (K := X.K) (mg := X.mg) k1 (.refl _)
          have ex : Ext H1 (upd H1 p (.lst vs)) [p] := ⟨upd_ext hpn, .inr ⟨p, rfl, hpn, by rw [upd_same]; trivial⟩⟩
          obtain ⟨s3, k3⟩ := ex.step k2
          have fds : FDs X.K X.mg H1 (zap Z1 f) vs (as.map (·.1)) := rvs.frz (fun a h => .inl h) fun a h => .inr h
          refine q (.ref p) _ _ [p] g ((s1.trans s2).trans s3) k3 ?_ ((rs.stay (zap_stays Z1 f) fun _ _ _ h => h).stay ex.stays fun x h u hu => ex.1 x u hu)
          unfold R
          exact ⟨p, [], rfl, rfl, .inl ⟨vs, _, rfl, upd_same, fds_all3 (fds.stay ex.stays)⟩⟩
        · have ex : Ext H1 (upd H1 p (.lst vs)) [p] := ⟨upd_ext hpn, .inr ⟨p, rfl, hpn, by rw [upd_same]; trivial⟩⟩
          obtain ⟨s3, k3⟩ := ex.step k1
          have a3 := rvs.all3 hc e1
          refine q (.ref p) _ _ (p :: f) g (s1.trans s3) k3 ?_ (rs.stay ex.stays fun x h u hu => ex.1 x u hu)
          unfold R
          exact ⟨p, f, rfl, rfl, .inl ⟨vs, _, rfl, upd_same, a3.imp fun v d f' p' q' => p'.stay ex.stays _ fun x h u hu => ex.1 x u hu⟩⟩
    · cases hx
  · exact q.elim
/-! ### if, and, or, not -/
theorem vt_then {m : M Bool} {β : Type} {F : Bool → M β} {k : β → Fr → Prop} (h : VT X W e m) {τ : L2.St} {H : Hp} {Z : Addr → Prop} {fp : List Addr} {σ : Fr} {G : Bool → Hp → Prop} (r : RSl X.K X.mg H Z σ τ fp) (ok : Ok H Z fp)
    (hp : Post X W τ H Z fp k (m.bind F σ))
    (go : ∀ a σ1 H1 Z1 g, Stp H Z fp H1 Z1 g → Ok H1 Z1 g → RSl X.K X.mg H1 Z1 σ1 τ g → Post X W τ H Z fp k (F a σ1) → G a H1) : WT X e τ H G :=
  h τ H Z fp σ G r ok (hp.bind.mono fun a σ1 q H1 Z1 g s1 k1 rs => go a σ1 H1 Z1 g s1 k1 rs q)
/-- .. the rest is a value again -/
theorem ve_rest {m : M Val} (h : VE X W e m) {τ : L2.St} {H H1 : Hp} {Z Z1 : Addr → Prop} {fp g : List Addr} {σ1 : Fr} {Q : VK} (s1 : Stp H Z fp H1 Z1 g) (k1 : Ok H1 Z1 g) (rs : RSl X.K X.mg H1 Z1 σ1 τ g)
    (q : Post X W τ H Z fp (kV1 X τ H Z fp Q) (m σ1)) : WE X e τ H1 Q :=
  h τ H1 Z1 g σ1 Q rs k1 (Post.step (f := []) q s1 k1 fun a σ2 q2 v H2 Z2 f2 g2 s2 k2 ra rs2 => q2 v H2 Z2 f2 g2 (s1.trans s2) k2 ra rs2)
theorem vt_rest {m : M Bool} (h : VT X W e m) {τ : L2.St} {H H1 : Hp} {Z Z1 : Addr → Prop} {fp g : List Addr} {σ1 : Fr} {Q : Bool → Hp → Prop} (s1 : Stp H Z fp H1 Z1 g) (k1 : Ok H1 Z1 g) (rs : RSl X.K X.mg H1 Z1 σ1 τ g)
    (q : Post X W τ H Z fp (kT1 X τ H Z fp Q) (m σ1)) : WT X e τ H1 Q :=
  h τ H1 Z1 g σ1 Q rs k1 (Post.step (f := []) q s1 k1 fun a σ2 q2 H2 Z2 g2 s2 k2 rs2 => q2 H2 Z2 g2 (s1.trans s2) k2 rs2)
theorem ve_ife {mt : M Bool} {ma mb : M Val} {pos : Pos} (ht : VT X W c mt) (ha : VE X W a ma) (hb : VE X W b mb) : VE X W (.IfExp c a b pos) (mt.bind fun x => if x then ma else mb) := by
  intro τ H Z fp σ Q r k hp
  refine WE.of (pe_ifExp (ptW X c) (peW X a) (peW X b)) (vt_then ht r k hp fun x σ1 H1 Z1 g s1 k1 rs q => ?_)
  cases x with
  | true =>
    rw [if_pos rfl] at q ⊢
    exact ve_rest ha s1 k1 rs q
  | false =>
    rw [if_neg Bool.false_ne_true] at q ⊢
    exact ve_rest hb s1 k1 rs q
theorem vt_ife {mt ma mb : M Bool} {pos : Pos} (ht : VT X W c mt) (ha : VT X W a ma) (hb : VT X W b mb) : VT X W (.IfExp c a b pos) (mt.bind fun x => if x then ma else mb) := by
  intro τ H Z fp σ Q r k hp pins s I
  have h1 : WT X c τ H (fun x H1 => if x = true then WT X a τ H1 Q else WT X b τ H1 Q) := vt_then ht r k hp fun x σ1 H1 Z1 g s1 k1 rs q => by
    cases x with
    | true =>
      rw [if_pos rfl] at q ⊢
      exact vt_rest ha s1 k1 rs q
    | false =>
      rw [if_neg Bool.false_ne_true] at q ⊢
      exact vt_rest hb s1 k1 rs q
  show wpAny _ _ (do if ← isTrue c X.env (eval c X.env) then isTrue a X.env (eval a X.env) else isTrue b X.env (eval b X.env)) _ _ _
  refine wpAny_bind (thn (h1 pins s I) fun x s1 ⟨H1, I1, q1⟩ => ?_)
  cases x with
  | true =>
    rw [if_pos rfl] at q1 ⊢
    exact q1 pins s1 I1
  | false =>
    rw [if_neg Bool.false_ne_true] at q1
    rw [if_neg Bool.false_ne_true]
    exact q1 pins s1 I1
theorem ve_not {m : M Val} {pos : Pos} (h : VE X W a m) : VE X W (.UnaryOp .Not a pos) (m.bind fun v => match boolV v with
    | some c => M.pure (.bl (!c), .fz)
    | none => M.bad) := by
  intro τ H Z fp σ Q r k hp
  refine WE.of (pe_not (peW X a)) (ve_then h r k hp fun v σ1 w H1 Z1 f g s1 k1 ra rs q => ?_)
  cases e1 : boolV v with
  | none => rw [e1] at q; exact q.elim
  | some c =>
    rw [e1] at q
    rw [boolV_inv e1] at ra
    exact ⟨c, ra.bl, q _ H1 Z1 [] g (s1.less fun x h => List.mem_append_right _ h) k1.right (R.of_fd (.bl _)) rs⟩
theorem vt_not {m : M Bool} {pos : Pos} (h : VT X W a m) : VT X W (.UnaryOp .Not a pos) (m.bind fun c => M.pure (!c)) := by
  intro τ H Z fp σ Q r k hp
  exact WT.of (pt_not (ptW X a)) (vt_then h r k hp fun x σ1 H1 Z1 g s1 k1 rs q => q H1 Z1 g s1 k1 rs)
theorem ve_and {ma mb : M Val} {rest : List Expr} {pos : Pos} (ha : VE X W a ma) (hb : VE X W (.BoolOp .And (b :: rest) pos) mb) : VE X W (.BoolOp .And (a :: b :: rest) pos) (ma.bind fun v => match boolV v with
    | some true => mb
    | some false => M.pure (.bl false, .fz)
    | none => M.bad) := by
  intro τ H Z fp σ Q r k hp
  refine WE.of (pe_and (peW X a) (peW X _)) (ve_then ha r k hp fun v σ1 w H1 Z1 f g s1 k1 ra rs q => ?_)
  cases e1 : boolV v with
  | none => rw [e1] at q; exact q.elim
  | some c =>
    rw [e1] at q
    rw [boolV_inv e1] at ra
    have s1' : Stp H Z fp H1 Z1 g := s1.less fun x h => List.mem_append_right _ h
    refine ⟨c, ra.bl, ?_⟩
    cases c with
    | true =>
      rw [if_pos rfl]
      exact ve_rest hb s1' k1.right rs q
    | false =>
      rw [if_neg Bool.false_ne_true]
      exact q _ H1 Z1 [] g s1' k1.right (R.of_fd (.bl _)) rs
theorem ve_or {ma mb : M Val} {rest : List Expr} {pos : Pos} (ha : VE X W a ma) (hb : VE X W (.BoolOp .Or (b :: rest) pos) mb) : VE X W (.BoolOp .Or (a :: b :: rest) pos) (ma.bind fun v => match boolV v with
    | some true => M.pure (.bl true, .fz)
    | some false => mb
    | none => M.bad) := by
  intro τ H Z fp σ Q r k hp
  refine WE.of (pe_or (peW X a) (peW X _)) (ve_then ha r k hp fun v σ1 w H1 Z1 f g s1 k1 ra rs q => ?_)
  cases e1 : boolV v with
  | none => rw [e1] at q; exact q.elim
  | some c =>
    rw [e1] at q
    rw [boolV_inv e1] at ra
    have s1' : Stp H Z fp H1 Z1 g := s1.less fun x h => List.mem_append_right _ h
    refine ⟨c, ra.bl, ?_⟩
    cases c with
    | true =>
      rw [if_pos rfl]
      exact q _ H1 Z1 [] g s1' k1.right (R.of_fd (.bl _)) rs
    | false =>
      rw [if_neg Bool.false_ne_true]
      exact ve_rest hb s1' k1.right rs q
theorem ve_one {m : M Val} {op : BoolOp} {pos : Pos} (h : VE X W a m) : VE X W (.BoolOp op [a] pos) m := fun τ H Z fp σ Q r k hp => WE.of (pe_one (peW X a)) (h τ H Z fp σ Q r k hp)
/-- tests by and, or: whatever the whole is -/
def VW (X : Cx) (W : WX) (e : Expr) (m : M Bool) : Prop :=
  ∀ τ H Z fp σ Q, RSl X.K X.mg H Z σ τ fp → Ok H Z fp → Post X W τ H Z fp (kT1 X τ H Z fp Q) (m σ) → ∀ whole pins s, Inv X pins τ H s → wpAny (model X.prog X.w) X.A (isTrue e X.env whole) (TP X pins τ Q) X.xe s
theorem VW.vt {m : M Bool} (h : VW X W e m) : VT X W e m := fun τ H Z fp σ Q r k hp pins s I => h τ H Z fp σ Q r k hp _ pins s I
theorem vw_one {m : M Bool} {op : BoolOp} {pos : Pos} (h : VT X W a m) : VW X W (.BoolOp op [a] pos) m := by
  intro τ H Z fp σ Q r k hp whole pins s I
  cases op with
  | And => exact (pw_and1 (ptW X a)).run whole pins s τ H Q I (h τ H Z fp σ Q r k hp)
  | Or => exact (pw_or1 (ptW X a)).run whole pins s τ H Q I (h τ H Z fp σ Q r k hp)
theorem vw_and {ma mb : M Bool} {rest : List Expr} {pos : Pos} (ha : VT X W a ma) (hb : VW X W (.BoolOp .And (b :: rest) pos) mb) : VW X W (.BoolOp .And (a :: b :: rest) pos) (ma.bind fun c => if c then mb else M.pure false) := by
  intro τ H Z fp σ Q r k hp whole pins s I
  have hw : PW X (.BoolOp .And (b :: rest) pos) (fun τ H Q => ∀ whole pins s, Inv X pins τ H s → wpAny (model X.prog X.w) X.A (isTrue (.BoolOp .And (b :: rest) pos) X.env whole) (TP X pins τ Q) X.xe s) := ⟨fun whole pins s σ H Q I h => h whole pins s I⟩
  refine (pw_and (ptW X a) hw).run whole pins s τ H Q I (vt_then ha r k hp fun x σ1 H1 Z1 g s1 k1 rs q => ?_)
  cases x with
  | true =>
    rw [if_pos rfl] at q ⊢
    exact hb τ H1 Z1 g σ1 Q rs k1 (Post.step (f := []) q s1 k1 fun a σ2 q2 H2 Z2 g2 s2 k2 rs2 => q2 H2 Z2 g2 (s1.trans s2) k2 rs2)
  | false =>
    rw [if_neg Bool.false_ne_true] at q ⊢
    exact q H1 Z1 g s1 k1 rs
theorem vw_or {ma mb : M Bool} {rest : List Expr} {pos : Pos} (ha : VT X W a ma) (hb : VW X W (.BoolOp .Or (b :: rest) pos) mb) : VW X W (.BoolOp .Or (a :: b :: rest) pos) (ma.bind fun c => if c then M.pure true else mb) := by
  intro τ H Z fp σ Q r k hp whole pins s I
  have hw : PW X (.BoolOp .Or (b :: rest) pos) (fun τ H Q => ∀ whole pins s, Inv X pins τ H s → wpAny (model X.prog X.w) X.A (isTrue (.BoolOp .Or (b :: rest) pos) X.env whole) (TP X pins τ Q) X.xe s) := ⟨fun whole pins s σ H Q I h => h whole pins s I⟩
  refine (pw_or (ptW X a) hw).run whole pins s τ H Q I (vt_then ha r k hp fun x σ1 H1 Z1 g s1 k1 rs q => ?_)
  cases x with
  | true =>
    rw [if_pos rfl] at q ⊢
    exact q H1 Z1 g s1 k1 rs
  | false =>
    rw [if_neg Bool.false_ne_true] at q ⊢
    exact hb τ H1 Z1 g σ1 Q rs k1 (Post.step (f := []) q s1 k1 fun a σ2 q2 H2 Z2 g2 s2 k2 rs2 => q2 H2 Z2 g2 (s1.trans s2) k2 rs2)
end
end Py

set_option Elab.async false
set_option linter.all false
set_option maxRecDepth 100000
set_option maxHeartbeats 4000000
/-! PyG: chains, calls of the text's own defs. -/
namespace Py
open PySem PySem.Spec PyProof.Rows L2
/-- no more of each -/
def Sb (a b : List Addr) : Prop := ∀ x, a.count x ≤ b.count x
theorem Sb.refl (a : List Addr) : Sb a a := fun _ => Nat.le_refl _
theorem Sb.trans {a b c : List Addr} (h : Sb a b) (k : Sb b c) : Sb a c := fun x => Nat.le_trans (h x) (k x)
theorem Sb.perm {a b : List Addr} (h : a.Perm b) : Sb a b := fun x => Nat.le_of_eq (h.count_eq x)
theorem Sb.sub {a b : List Addr} (h : a.Sublist b) : Sb a b := fun x => h.count_le x
theorem Sb.app {a b c d : List Addr} (h : Sb a b) (k : Sb c d) : Sb (a ++ c) (b ++ d) := fun x => by
  rw [List.count_append, List.count_append]
  exact Nat.add_le_add (h x) (k x)
theorem Sb.mem {a b : List Addr} (h : Sb a b) {x : Addr} (m : x ∈ a) : x ∈ b := List.count_pos_iff.mp (Nat.lt_of_lt_of_le (List.count_pos_iff.mpr m) (h x))
theorem Ok.sb {H : Hp} {Z : Addr → Prop} {a b : List Addr} (k : Ok H Z b) (h : Sb a b) : Ok H Z a :=
  ⟨List.nodup_iff_count.mpr fun x => Nat.le_trans (h x) (List.nodup_iff_count.mp k.nd x), fun x m => k.mb x (h.mem m), fun x m => k.nz x (h.mem m), k.zt⟩
theorem Stp.sb {H H' : Hp} {Z Z' : Addr → Prop} {fp a b : List Addr} (s : Stp H Z fp H' Z' b) (h : Sb a b) : Stp H Z fp H' Z' a := s.less fun x m => h.mem m
section
variable {X : Cx} {W : WX} {e a b c : Expr} {es : List Expr} {p q : Prim}
/-! ### a p b q c -/
theorem sv_fl {K : PySem.W.Frag} {mg : Str → Option Value} {H : Hp} {Z : Addr → Prop} {v : Val} {x : V} {f : List Addr} {d : D} (h : R K mg H Z v.2 x v.1 f) (e : sv v = some d) : FL K mg H Z x d := by
  unfold sv at e
  split at e
  · cases e
    exact h.fl (by assumption)
  · cases e
theorem chain_run {ma mb mc : M Val} {r r' : R2} (ha : VE X W a ma) (hb : VE X W b mb) (hc : VE X W c mc) (o1 : PrimOk X p (two r)) (o2 : PrimOk X q (two r')) {τ : L2.St} {H : Hp} {Z : Addr → Prop} {fp : List Addr} {σ : Fr} {Q : VK} (rs0 : RSl X.K X.mg H Z σ τ fp) (k : Ok H Z fp)
    (hp : Post X W τ H Z fp (kV1 X τ H Z fp Q) (chainM p q ma mb mc σ)) : tChain r r' (WE X a) (WE X b) (WE X c) τ H Q := by
  refine ve_then ha rs0 k hp fun x σ1 v1 H1 Z1 f1 g1 s1 k1 ra1 rs1 q1 => ?_
  refine hb τ H1 Z1 g1 σ1 _ rs1 k1.right (q1.bind.step s1 k1 fun y σ2 q2 => ?_)
  intro v2 H2 Z2 f2 g2 s2 k2 ra2 rs2
  have ra1' := R.stay (s2.stays k1.right) _ (s2.keep k1) ra1
  cases ex : sv x with
  | none => rw [ex] at q2; exact q2.elim
  | some dx =>
    cases ey : sv y with
    | none => rw [ex, ey] at q2; exact q2.elim
    | some dy =>
      rw [ex, ey] at q2
      dsimp only at q2
      have fl1 := sv_fl ra1' ex
      have fl2 := sv_fl ra2 ey
      have s12 : Stp H Z fp H2 Z2 g2 := (s1.trans (s2.more fun x h => List.mem_append_right _ h)).less fun x h => List.mem_append_right _ h
      cases ep : p.run [dx, dy] with
      | none => rw [ep] at q2; exact q2.elim
      | some z =>
        rw [ep] at q2
        obtain ⟨d, o⟩ := z
        cases d with
        | bl t =>
          cases o with
          | fz =>
            refine o1 H2 Z2 [v1, v2] [dx, dy] (.bl t) .fz _ (.cons fl1 (.cons fl2 .nil)) ep fun w H3 f3 ex3 rw3 => ?_
            refine ⟨t, rw3.bl, ?_⟩
            have e3 : f3 = [] := (R.fz_iff.mp rw3).1
            subst e3
            have k3 : Ok H3 Z2 (f2 ++ g2) := (ex3.step k2).2
            have s3g : Stp H2 Z2 g2 H3 Z2 g2 := (ex3.step k2.right).1
            have rs3 := rs2.stay ex3.stays fun x h u hu => ex3.1 x u hu
            cases t with
            | true =>
              rw [if_pos rfl]
              refine hc τ H3 Z2 g2 σ2 _ rs3 k3.right (Post.step (f := []) (q2.bindOf) (s12.trans s3g) k3.right fun z σ3 q3 => ?_)
              obtain ⟨res, er, q3⟩ := q3
              intro v3 H4 Z4 f4 g4 s4 k4 ra4 rs4
              cases ez : sv z with
              | none => rw [ez] at er; cases er
              | some dz =>
                rw [ez] at er
                obtain ⟨d5, o5⟩ := res
                have fl3 := sv_fl ra4 ez
                have ra2' : R X.K X.mg H4 Z4 y.2 v2 y.1 f2 := by
                  have a1 := R.stay ex3.stays _ (fun x h u hu => ex3.1 x u hu) ra2
                  exact R.stay (s4.stays k3.right) _ (s4.keep k3) a1
                have fl2' := sv_fl ra2' ey
                refine o2 H4 Z4 [v2, v3] [dy, dz] d5 o5 _ (.cons fl2' (.cons fl3 .nil)) er fun w5 H5 f5 ex5 rw5 => ?_
                obtain ⟨s5, k5⟩ := ex5.step k4.right
                exact q3 w5 H5 Z4 f5 g4 (((s12.trans s3g).trans (s4.less fun x h => List.mem_append_right _ h)).trans s5) k5 rw5 (rs4.stay ex5.stays fun x h u hu => ex5.1 x u hu)
            | false =>
              rw [if_neg Bool.false_ne_true]
              exact q2 _ H3 Z2 [] g2 (s12.trans s3g) k3.right (R.of_fd (.bl _)) rs3
          | _ => cases t <;> exact q2.elim
        | _ => exact q2.elim
theorem ve_chain {ma mb mc : M Val} {op op' : CmpOp} {r r' : R2} {pos : Pos} (h1 : OpR X (compareOp op) r) (h2 : OpR X (compareOp op') r') (o1 : PrimOk X p (two r)) (o2 : PrimOk X q (two r')) (hm : lastMarks [op, op'] [b, c] = false)
    (ha : VE X W a ma) (hb : VE X W b mb) (hc : VE X W c mc) : VE X W (.Compare a [op, op'] [b, c] pos) (chainM p q ma mb mc) := fun τ H Z fp σ Q r k hp =>
  WE.of (pe_chain h1 h2 (peW X a) (peW X b) (peW X c) hm) (chain_run ha hb hc o1 o2 r k hp)
theorem vt_chain {ma mb mc : M Val} {op op' : CmpOp} {r r' : R2} {pos : Pos} (h1 : OpR X (compareOp op) r) (h2 : OpR X (compareOp op') r') (o1 : PrimOk X p (two r)) (o2 : PrimOk X q (two r')) (hm : lastMarks [op, op'] [b, c] = false)
    (ha : VE X W a ma) (hb : VE X W b mb) (hc : VE X W c mc) : VT X W (.Compare a [op, op'] [b, c] pos) ((chainM p q ma mb mc).bind fun v => M.of (boolV v)) := fun τ H Z fp σ Q r k hp =>
  WT.of (pt_chain h1 h2 (peW X a) (peW X b) (peW X c) hm) (chain_run ha hb hc o1 o2 r k (hp.bindOf.mono fun v σ' q => vt_of_kV q))
end
/-! ### calls -/
/-- the values of the parameters that are written -/
def pick {α : Type} : List Bool → List α → List α
  | true :: bs, v :: vs => v :: pick bs vs
  | false :: bs, _ :: vs => pick bs vs
  | _, _ => []
/-- what a def of the text promises: what its evaluation says -/
def spF (K : PySem.W.Frag) (mg : Str → Option Value) (io : List Bool) (cl : List Val → COut) : Sp := fun vs H Q E => ∃ args Z fp, RVs K mg H Z args vs fp ∧ Ok H Z fp ∧ args.length = io.length ∧ match cl args with
  | .ret r ios => ∀ v H' Z' f g, Stp H Z fp H' Z' (f ++ g) → Ok H' Z' (f ++ g) → R K mg H' Z' r.2 v r.1 f → RVs K mg H' Z' ios (pick io vs) g → Q v H'
  | .exn c ios => ∀ H' Z' g, Stp H Z fp H' Z' g → Ok H' Z' g → RVs K mg H' Z' ios (pick io vs) g → ∀ C, mg c = some (.ref C) → E (.ref C) none H'
  | .bad => False
section
variable {K : PySem.W.Frag} {mg : Str → Option Value} {H : Hp} {τ : L2.St}
/-- the arguments handed over -/
theorem passA_ok : ∀ {bs : List Bool} {as : List AV} {vs : List V} {f g : List Addr} {Z : Addr → Prop} {σ σ' : Fr} {xs : List Val}, RAs K mg H Z τ as vs f → RSl K mg H Z σ τ g → Ok H Z (f ++ g) → passA bs as σ = .ok xs σ' →
    ∃ Z' fa g', Stp H Z (f ++ g) H Z' (fa ++ g') ∧ Ok H Z' (fa ++ g') ∧ RVs K mg H Z' xs vs fa ∧ RSl K mg H Z' σ' τ g' ∧ xs.length = bs.length ∧ σ'.length = σ.length
  | [], [], _, _, g, Z, σ, σ', xs, .nil, r, k, e => by
    cases e
    exact ⟨Z, [], g, Stp.same, k, .nil, r, rfl, rfl⟩
  | true :: bs, a :: as, _, _, g, Z, σ, σ', xs, .cons (v := v) (vs := vs) (f := f1) (g := f2) ra ras, r, k, e => by
    unfold passA M.bind at e
    cases e1 : takeA a σ with
    | bad => rw [e1] at e; cases e
    | exn c s => rw [e1] at e; cases e
    | ok x σ1 =>
      rw [e1] at e
      dsimp only at e
      cases e2 : passA bs as σ1 with
      | bad => simp only [M.bind, e2] at e; cases e
      | exn c s => simp only [M.bind, e2] at e; cases e
      | ok ys σ2 =>
        simp only [M.bind, e2] at e
        cases e
        -- the first one taken
        have first : ∃ fx g1, R K mg H Z x.2 v x.1 fx ∧ RSl K mg H Z σ1 τ g1 ∧ Sb (fx ++ (f2 ++ g1)) (f1 ++ f2 ++ g) ∧ σ1.length = σ.length := by
          cases a with
          | pl i =>
            obtain ⟨hv, rfl⟩ := ra
            unfold takeA at e1
            dsimp only at e1
            cases es : slot σ i with
            | none => rw [es] at e1; cases e1
            | some y =>
              rw [es] at e1
              cases e1
              obtain ⟨d, o⟩ := x
              obtain ⟨v', fx, g0, hv', hr, hs, hp⟩ := r.take es
              rw [hv] at hv'
              cases hv'
              refine ⟨fx, g0, hr, hs, ?_, List.length_set ..⟩
              intro z
              have := hp.count_eq z
              simp only [List.count_append, List.nil_append] at this ⊢
              omega
          | vl y =>
            cases e1
            refine ⟨f1, g, ra, r, ?_, rfl⟩
            rw [List.append_assoc]
            exact Sb.refl _
        obtain ⟨fx, g1, hr, hs, sb, hl⟩ := first
        have k1 : Ok H Z (fx ++ (f2 ++ g1)) := k.sb sb
        obtain ⟨Z', fa, g', s2, k2, rv, rs, hlen, hl2⟩ := passA_ok ras hs k1.right e2
        have k3 := k1.with s2 k2
        refine ⟨Z', fx ++ fa, g', ?_, by rw [List.append_assoc]; exact k3, .cons (R.stay (s2.stays k1.right) _ (s2.keep k1) hr) rv, rs, by rw [List.length_cons, List.length_cons, hlen], hl2.trans hl⟩
        rw [List.append_assoc fx]
        exact (Stp.same.sb sb).trans (s2.under k1)
  | false :: bs, a :: as, _, _, g, Z, σ, σ', xs, .cons (v := v) (vs := vs) (f := f1) (g := f2) ra ras, r, k, e => by
    unfold passA M.bind at e
    cases e1 : frzA a σ with
    | bad => rw [e1] at e; cases e
    | exn c s => rw [e1] at e; cases e
    | ok x σ1 =>
      rw [e1] at e
      dsimp only at e
      cases e2 : passA bs as σ1 with
      | bad => simp only [M.bind, e2] at e; cases e
      | exn c s => simp only [M.bind, e2] at e; cases e
      | ok ys σ2 =>
        simp only [M.bind, e2] at e
        cases e
        have first : ∃ Z1 g1, x.2 = .fz ∧ FD K mg H Z1 v x.1 ∧ RSl K mg H Z1 σ1 τ g1 ∧ Stp H Z (f1 ++ f2 ++ g) H Z1 (f2 ++ g1) ∧ Ok H Z1 (f2 ++ g1) ∧ RAs K mg H Z1 τ as vs f2 ∧ σ1.length = σ.length := by
          cases a with
          | pl i =>
            obtain ⟨hv, rfl⟩ := ra
            replace e1 : getV i σ = .ok x σ1 := e1
            cases es : slot σ i with
            | none => unfold getV at e1; rw [es] at e1; cases e1
            | some y =>
              obtain ⟨d, o⟩ := y
              obtain ⟨v', Z1, g1, hv', s1, k1, fd, σ'', eg, rs⟩ := getV_spec r k.right es
              rw [hv] at hv'
              cases hv'
              rw [eg] at e1
              cases e1
              refine ⟨Z1, g1, rfl, fd, rs, ?_, k.with s1 k1, RAs.stay (s1.stays k.right) (s1.keep k) ras, ?_⟩
              · exact s1.under k
              · have l1 := rs.length
                have l2 := r.length
                omega
          | vl y =>
            obtain ⟨d, o⟩ := y
            cases e1
            have pm : (f1 ++ f2 ++ g).Perm (f1 ++ (f2 ++ g)) := by rw [List.append_assoc]
            obtain ⟨s1, k1⟩ := frz_step (K := K) (mg := mg) k pm
            refine ⟨zap Z f1, g, rfl, R.frz o (show R K mg H Z o v d f1 from ra) (fun a h => .inr h) fun a h => .inl h, r.stay (zap_stays Z f1) fun _ _ _ h => h, s1, k1, RAs.stay (zap_stays Z f1) (fun _ _ _ h => h) ras, rfl⟩
        obtain ⟨Z1, g1, ex, fd, hs, s1, k1, ras1, hl⟩ := first
        obtain ⟨Z', fa, g', s2, k2, rv, rs, hlen, hl2⟩ := passA_ok ras1 hs k1 e2
        obtain ⟨d, o⟩ := x
        cases ex
        refine ⟨Z', fa, g', s1.trans s2, k2, RVs.cons (f := []) (R.of_fd (fd.stay (s2.stays k1))) rv, rs, by rw [List.length_cons, List.length_cons, hlen], hl2.trans hl⟩
theorem backA_ok {Z : Addr → Prop} : ∀ {bs : List Bool} {as : List AV} {vs : List V} {f gi g : List Addr} {σ σ' : Fr} {ios : List Val} {H0 : Hp} {Z0 : Addr → Prop}, RAs K mg H0 Z0 τ as vs f → RVs K mg H Z ios (pick bs vs) gi → RSl K mg H Z σ τ g → backA bs as ios σ = some σ' →
    ∃ g', RSl K mg H Z σ' τ g' ∧ Sb g' (gi ++ g)
  | [], [], _, _, gi, g, σ, σ', ios, _, _, .nil, rv, r, e => by
    cases ios with
    | nil =>
      cases e
      exact ⟨g, r, Sb.sub (List.sublist_append_right _ _)⟩
    | cons _ _ => cases e
  | true :: bs, a :: as, _, _, gi, g, σ, σ', ios, _, _, .cons (v := v) ra ras, rv, r, e => by
    cases ios with
    | nil => cases a <;> cases e
    | cons x xs =>
      unfold pick at rv
      cases rv with
      | @cons d o _ fx _ _ gr hx hr =>
        cases a with
        | pl i =>
          obtain ⟨hv, _⟩ := ra
          unfold backA at e
          have hi : i < σ.length := by
            rw [r.length]
            exact (List.getElem?_eq_some_iff.mp hv).1
          obtain ⟨g0, g1, h1, h2, h3⟩ := r.fill hi hv hx
          obtain ⟨g', h4, h5⟩ := backA_ok ras hr h1 e
          refine ⟨g', h4, h5.trans ?_⟩
          intro z
          have c1 := h2.count_eq z
          have c2 := h3.count_le z
          simp only [List.count_append] at c1 ⊢
          omega
        | vl y =>
          unfold backA at e
          obtain ⟨g', h4, h5⟩ := backA_ok ras hr r e
          refine ⟨g', h4, h5.trans ?_⟩
          intro z
          simp only [List.count_append]
          omega
  | false :: bs, a :: as, _, _, gi, g, σ, σ', ios, _, _, .cons ra ras, rv, r, e => by
    unfold pick at rv
    have e' : backA bs as ios σ = some σ' := by
      cases a <;> (unfold backA at e; exact e)
    exact backA_ok ras rv r e'
end
theorem passA_noexn : ∀ {bs : List Bool} {as : List AV} {σ σ' : Fr} {c : Str}, passA bs as σ = .exn c σ' → False
  | [], [], _, _, _, e => by cases e
  | [], _ :: _, _, _, _, e => by cases e
  | true :: bs, [], _, _, _, e => by cases e
  | false :: bs, [], _, _, _, e => by cases e
  | true :: bs, a :: as, σ, σ', c, e => by
    unfold passA M.bind at e
    cases e1 : takeA a σ with
    | bad => rw [e1] at e; cases e
    | exn c s =>
      cases a with
      | pl i =>
        unfold takeA at e1
        dsimp only at e1
        split at e1 <;> cases e1
      | vl _ => cases e1
    | ok x σ1 =>
      rw [e1] at e
      dsimp only at e
      cases e2 : passA bs as σ1 with
      | bad => simp only [M.bind, e2] at e; cases e
      | exn c s => exact passA_noexn e2
      | ok ys σ2 => simp only [M.bind, e2] at e; cases e
  | false :: bs, a :: as, σ, σ', c, e => by
    unfold passA M.bind at e
    cases e1 : frzA a σ with
    | bad => rw [e1] at e; cases e
    | exn c s =>
      cases a with
      | pl i =>
        unfold frzA getV at e1
        dsimp only at e1
        split at e1 <;> cases e1
      | vl _ => cases e1
    | ok x σ1 =>
      rw [e1] at e
      dsimp only at e
      cases e2 : passA bs as σ1 with
      | bad => simp only [M.bind, e2] at e; cases e
      | exn c s => exact passA_noexn e2
      | ok ys σ2 => simp only [M.bind, e2] at e; cases e
section
variable {X : Cx} {W : WX} {e : Expr} {es : List Expr}
theorem ve_call {k : Nat} {f : Addr} {fd : FuncData} {ps : List Str} {io : List Bool} {cl : List Val → COut} {x : Str} {p pos : Pos} {C : Cfg} {m : M (List AV)}
    (F : FnOk X.prog X.w X.K X.mg X.base (L2N.CX X.prog X.w) k f fd ps (spF X.K X.mg io cl)) (hr : Room k X.A) (hg : Gl X x) (hm : X.mg x = some (.ref f)) (hk : PySem.W.keepIn X.K (.ref f) = true) (hb : Binds X.K fd ps []) (tk : L2N.Takes X W)
    (hio : C.io x = some io) (hcl : C.cl x = cl) (hs : VA X W (e :: es) m) (hn : (e :: es).all noStar = true) (hdb : (x == ("__debug__" : Str)) = false) :
    VE X W (.Call (.Name x p) (e :: es) [] pos) (m.bind fun as => callM C x as) := by
  intro τ H Z fp σ Q r kk hp
  have hn' : noStar e = true ∧ es.all noStar = true := by
    rw [List.all_cons] at hn
    exact Bool.and_eq_true_iff.mp hn
  have hpl : (backTo pos (starEach es X.env)).any (·.1) = false := by
    have : ∀ l : List Expr, l.all noStar = true → (backTo pos (starEach l X.env)).any (·.1) = false := by
      intro l
      induction l with
      | nil => intro _; rfl
      | cons y l ih =>
        intro hl
        rw [List.all_cons] at hl
        have hl' := Bool.and_eq_true_iff.mp hl
        rw [star_cons hl'.1]
        exact ih hl'.2
    exact this es hn'.2
  refine WE.of (pe_callS F hr hg hm hk hb (fun σ => L2N.passAt tk σ) (paW X (e :: es) hn) hdb (star_cons hn'.1) hpl) ?_
  refine hs τ H Z fp σ _ r kk (hp.bind.mono fun as σ1 q => ?_)
  intro vs H1 Z1 f1 g1 s1 k1 ras rs
  unfold callM at q
  rw [hio] at q
  dsimp only at q
  cases e1 : passA io as σ1 with
  | bad => rw [e1] at q; exact q.elim
  | exn c s => exfalso; exact passA_noexn e1
  | ok xs σ2 =>
    rw [e1] at q
    dsimp only at q
    obtain ⟨Z2, fa, g2, s2, k2, rv, rs2, hlen, hl2⟩ := passA_ok ras rs k1 e1
    refine ⟨xs, Z2, fa, rv, k2.left, hlen, ?_⟩
    rw [hcl] at q
    have k2' : Ok H1 Z2 (g2 ++ fa) := k2.perm List.perm_append_comm
    cases e2 : cl xs with
    | bad => rw [e2] at q; exact q.elim
    | ret v ios =>
      rw [e2] at q
      dsimp only at q
      intro w H3 Z3 f3 g3 s3 k3 ra3 rv3
      cases e3 : backA io as ios σ2 with
      | none => rw [e3] at q; exact q.elim
      | some σ3 =>
        rw [e3] at q
        have rs3 : RSl X.K X.mg H3 Z3 σ2 τ g2 := rs2.stay (s3.stays k2.left) (s3.keep k2')
        obtain ⟨g4, rs4, sb⟩ := backA_ok ras rv3 rs3 e3
        have k4 : Ok H3 Z3 (g2 ++ (f3 ++ g3)) := k2'.with s3 k3
        have sb2 : Sb (f3 ++ g4) (g2 ++ (f3 ++ g3)) := fun z => by
          have := sb z
          simp only [List.count_append] at this ⊢
          omega
        have st : Stp H1 Z2 (fa ++ g2) H3 Z3 (f3 ++ g4) := by
          have a1 := s3.under k2'
          exact (a1.more fun x h => (List.perm_append_comm.mem_iff.mp h)).sb sb2
        exact q w H3 Z3 f3 g4 ((s1.trans s2).trans st) (k4.sb sb2) ra3 rs4
    | exn c ios =>
      rw [e2] at q
      dsimp only at q
      intro H3 Z3 g3 s3 k3 rv3 CC hC
      cases e3 : backA io as ios σ2 with
      | none => rw [e3] at q; exact q.elim
      | some σ3 =>
        rw [e3] at q
        have rs3 : RSl X.K X.mg H3 Z3 σ2 τ g2 := rs2.stay (s3.stays k2.left) (s3.keep k2')
        obtain ⟨g4, rs4, sb⟩ := backA_ok ras rv3 rs3 e3
        have k4 : Ok H3 Z3 (g2 ++ g3) := k2'.with s3 k3
        have sb2 : Sb g4 (g2 ++ g3) := fun z => by
          have := sb z
          simp only [List.count_append] at this ⊢
          omega
        have st : Stp H1 Z2 (fa ++ g2) H3 Z3 g4 := by
          have a1 := s3.under k2'
          exact (a1.more fun x h => (List.perm_append_comm.mem_iff.mp h)).sb sb2
        exact q H3 Z3 g4 ((s1.trans s2).trans st) (k4.sb sb2) rs4 CC hC
end
end Py

set_option Elab.async false
set_option linter.all false
set_option maxRecDepth 100000
set_option maxHeartbeats 4000000
/-! PyH: targets, what is walked, comprehensions. -/
namespace Py
open PySem PySem.Spec PyProof.Rows L2
open RZ (ItzT pi_zipA)
/-! ### targets -/
/-- an item: frozen, or a pair just made -/
def IT (K : PySem.W.Frag) (mg : Str → Option Value) (H : Hp) (Z : Addr → Prop) (v : V) (d : D) : Prop :=
  FD K mg H Z v d ∨ ∃ a vs ds, v = .ref a ∧ d = .tup ds ∧ SqT K H a vs ∧ FDs K mg H Z vs ds
theorem assignEach_cons {e : Expr} {es : List Expr} {env : Env} (h : noStar e = true) : assignEach (e :: es) env = (false, assign e env) :: assignEach es env := by
  cases e <;> first | rfl | cases h
theorem assignEach_len {env : Env} : ∀ es : List Expr, es.all noStar = true → (assignEach es env).length = es.length ∧ (assignEach es env).findIdx? (·.1) = none
  | [], _ => ⟨rfl, rfl⟩
  | e :: es, h => by
    rw [List.all_cons] at h
    have h' := Bool.and_eq_true_iff.mp h
    obtain ⟨h1, h2⟩ := assignEach_len (env := env) es h'.2
    rw [assignEach_cons h'.1]
    refine ⟨by rw [List.length_cons, List.length_cons, h1], ?_⟩
    rw [List.findIdx?_cons]
    dsimp only
    rw [if_neg Bool.false_ne_true, h2]
    rfl
/-- a target's walk, by what it is for -/
def WG (X : Cx) (tg : Expr) (v : V) (τ : L2.St) (H : Hp) (Q : L2.St → Hp → Prop) : Prop :=
  ∀ (pins : List (Addr × Obj)) (s : Shared) (u : Value), Inv X pins τ H s → RelV v u → wpAny (model X.prog X.w) X.A (assign tg X.env u) (fun _ s' => ∃ σ' H', Inv X pins σ' H' s' ∧ Q σ' H') X.xe s
theorem pgW (X : Cx) (tg : Expr) : PG X tg (WG X tg) := ⟨fun pins s σ H v u Q I r h => h pins s u I r⟩
theorem WG.of {X : Cx} {tg : Expr} {t : TG} (h : PG X tg t) {v : V} {τ : L2.St} {H : Hp} {Q : L2.St → Hp → Prop} (q : t v τ H Q) : WG X tg v τ H Q := fun pins s u I r => h.run pins s τ H v u Q I r q
def WGs (X : Cx) : List Expr → List V → L2.St → Hp → (L2.St → Hp → Prop) → Prop
  | [], vs, τ, H, Q => vs = [] ∧ Q τ H
  | e :: es, vs, τ, H, Q => ∃ v r, vs = v :: r ∧ WG X e v τ H fun τ' H' => WGs X es r τ' H' Q
theorem pgsW (X : Cx) : ∀ es : List Expr, es.all noStar = true → PGs X es (WGs X es)
  | [], _ => pgs_nil
  | e :: es, h => by
    rw [List.all_cons] at h
    have h' := Bool.and_eq_true_iff.mp h
    exact pgs_cons (pgW X e) (pgsW X es h'.2) (by rw [assignEach_cons h'.1]; rfl)
/-- which slots a target writes -/
def Pat.slots : Pat → List Nat
  | .nm i => [i]
  | .nl => []
  | .cn p r => p.slots ++ r.slots
/-- other slots are as they were -/
def Keeps (ps : List Nat) (τ τ' : L2.St) : Prop := τ'.length = τ.length ∧ ∀ i, i ∉ ps → τ'[i]? = τ[i]?
theorem Keeps.refl (ps : List Nat) (τ : L2.St) : Keeps ps τ τ := ⟨rfl, fun _ _ => rfl⟩
theorem Keeps.trans {ps qs : List Nat} {τ τ1 τ2 : L2.St} (a : Keeps ps τ τ1) (b : Keeps qs τ1 τ2) : Keeps (ps ++ qs) τ τ2 :=
  ⟨b.1.trans a.1, fun i h => (b.2 i fun z => h (List.mem_append_right _ z)).trans (a.2 i fun z => h (List.mem_append_left _ z))⟩
theorem Keeps.mono {ps qs : List Nat} {τ τ1 : L2.St} (a : Keeps ps τ τ1) (h : ∀ i ∈ ps, i ∈ qs) : Keeps qs τ τ1 := ⟨a.1, fun i z => a.2 i fun q => z (h i q)⟩
theorem Keeps.set {i : Nat} {x : Option V} {τ : L2.St} : Keeps [i] τ (τ.set i x) := ⟨List.length_set .., fun j h => by
  rw [List.getElem?_set_ne]
  rintro rfl
  exact h List.mem_cons_self⟩
/-- what a target's store leaves -/
def PstG (X : Cx) (p : Pat) (τ : L2.St) (H : Hp) (Z : Addr → Prop) (fp : List Addr) (σ' : Fr) (Q : L2.St → Hp → Prop) : Prop :=
  ∀ τ' g, Keeps p.slots τ τ' → Sb g fp → RSl X.K X.mg H Z σ' τ' g → Q τ' H
/-- a target p as text tg: a value held as o -/
def VG (X : Cx) (tg : Expr) (p : Pat) : Prop :=
  ∀ d o v f τ H Z g σ σ' Q, (R X.K X.mg H Z o v d f ∨ (o = .fz ∧ f = [] ∧ (∃ q r, p = .cn q r) ∧ IT X.K X.mg H Z v d)) → RSl X.K X.mg H Z σ τ g → Ok H Z (f ++ g) → asgP p (d, o) σ = some σ' → PstG X p τ H Z (f ++ g) σ' Q → WG X tg v τ H Q
/-- the items of a tuple -/
def VGs (X : Cx) (tgs : List Expr) (p : Pat) : Prop :=
  ∀ ds o vs f τ H Z g σ σ' Q, ((o = .fz ∧ f = [] ∧ FDs X.K X.mg H Z vs ds) ∨ ∃ c, o = .tu c ∧ RT X.K X.mg H Z c vs ds f) → RSl X.K X.mg H Z σ τ g → Ok H Z (f ++ g) → asgP p (.tup ds, o) σ = some σ' → PstG X p τ H Z (f ++ g) σ' Q → WGs X tgs vs τ H Q
section
variable {X : Cx} {tg : Expr} {tgs : List Expr}
theorem vg_name {i : Nat} (h : PG X tg (gName i)) : VG X tg (.nm i) := by
  intro d o v f τ H Z g σ σ' Q hv r k e hq
  rcases hv with hr | ⟨_, _, ⟨q, r', z⟩, _⟩
  · unfold asgP at e
    split at e
    · rename_i hi
      cases e
      obtain ⟨g0, g', h1, h2, h3⟩ := r.put hi hr
      exact WG.of h (hq _ g' Keeps.set ((Sb.perm h2).trans ((Sb.refl f).app (Sb.sub h3))) h1)
    · cases e
  · cases z
theorem vgs_nil : VGs X [] .nl := by
  intro ds o vs f τ H Z g σ σ' Q hv r k e hq
  cases ds with
  | nil =>
    unfold asgP at e
    cases e
    have hvs : vs = [] := by
      rcases hv with ⟨_, _, h⟩ | ⟨c, _, h⟩
      · cases h; rfl
      · cases c with
        | nl => unfold RT at h; exact h.1
        | cn a b => unfold RT at h; obtain ⟨_, _, _, _, _, _, _, q, _⟩ := h; cases q
        | _ => unfold RT at h; exact h.elim
    exact ⟨hvs, hq τ g (Keeps.refl _ _) (Sb.sub (List.sublist_append_right _ _)) r⟩
  | cons _ _ =>
    cases o <;> (unfold asgP at e; cases e)
theorem vgs_cons {p q : Pat} (h : VG X tg p) (hs : VGs X tgs q) : VGs X (tg :: tgs) (.cn p q) := by
  intro ds o vs f τ H Z g σ σ' Q hv r k e hq
  cases ds with
  | nil => cases o <;> (unfold asgP at e; cases e)
  | cons d ds =>
    have parts : ∃ v vs' od oc f1 f2, vs = v :: vs' ∧ f = f1 ++ f2 ∧ R X.K X.mg H Z od v d f1 ∧ ((oc = .fz ∧ f2 = [] ∧ FDs X.K X.mg H Z vs' ds) ∨ ∃ c, oc = .tu c ∧ RT X.K X.mg H Z c vs' ds f2) ∧
        (asgP p (d, od) σ).bind (fun σ1 => asgP q (.tup ds, oc) σ1) = some σ' := by
      rcases hv with ⟨rfl, rfl, h⟩ | ⟨c, rfl, h⟩
      · cases h with
        | cons h1 h2 =>
          unfold asgP at e
          exact ⟨_, _, .fz, .fz, [], [], rfl, rfl, R.of_fd h1, .inl ⟨rfl, rfl, h2⟩, e⟩
      · cases c with
        | cn a b =>
          unfold RT at h
          obtain ⟨v, vs', d', ds', f1, f2, rfl, ed, rfl, h1, h2⟩ := h
          cases ed
          unfold asgP at e
          exact ⟨v, vs', a, .tu b, f1, f2, rfl, rfl, h1, .inr ⟨b, rfl, h2⟩, e⟩
        | nl => unfold RT at h; obtain ⟨_, q, _⟩ := h; cases q
        | _ => unfold RT at h; exact h.elim
    obtain ⟨v, vs', od, oc, f1, f2, rfl, rfl, h1, h2, e'⟩ := parts
    cases e1 : asgP p (d, od) σ with
    | none => rw [e1] at e'; cases e'
    | some σ1 =>
      rw [e1] at e'
      refine ⟨v, vs', rfl, ?_⟩
      have k1 : Ok H Z (f1 ++ g) := k.sb fun z => by
        simp only [List.count_append]
        omega
      refine h d od v f1 τ H Z g σ σ1 _ (.inl h1) r k1 e1 fun τ1 g1 kp1 sb1 rs1 => ?_
      have k2 : Ok H Z (f2 ++ g1) := k.sb fun z => by
        have := sb1 z
        simp only [List.count_append] at this ⊢
        omega
      refine hs ds oc vs' f2 τ1 H Z g1 σ1 σ' Q h2 rs1 k2 e' fun τ2 g2 kp2 sb2 rs2 => ?_
      refine hq τ2 g2 (kp1.trans kp2) (sb2.trans fun z => ?_) rs2
      have := sb1 z
      simp only [List.count_append] at this ⊢
      omega
theorem WG.mono {v : V} {τ : L2.St} {H : Hp} {Q Q' : L2.St → Hp → Prop} (h : WG X tg v τ H Q) (k : ∀ τ' H', Q τ' H' → Q' τ' H') : WG X tg v τ H Q' := fun pins s u I r => thn (h pins s u I r) fun _ s' ⟨τ', H', I', q⟩ => ⟨τ', H', I', k τ' H' q⟩
theorem FDs.rt_len {K : PySem.W.Frag} {mg : Str → Option Value} {H : Hp} {Z : Addr → Prop} : ∀ (o : Own) {vs : List V} {ds : List D} {f : List Addr}, RT K mg H Z o vs ds f → vs.length = ds.length
  | .nl, _, _, _, h => by unfold RT at h; obtain ⟨rfl, rfl, _⟩ := h; rfl
  | .cn o r, _, _, _, h => by
    unfold RT at h
    obtain ⟨v, vs', d, ds', f1, f2, rfl, rfl, rfl, h1, h2⟩ := h
    rw [List.length_cons, List.length_cons, FDs.rt_len r h2]
  | .fz, _, _, _, h => by unfold RT at h; exact h.elim
  | .un _, _, _, _, h => by unfold RT at h; exact h.elim
  | .tu _, _, _, _, h => by unfold RT at h; exact h.elim
  | .rc _, _, _, _, h => by unfold RT at h; exact h.elim
/-- a pattern's length, if it is a tuple's -/
def Pat.len : Pat → Nat
  | .cn _ r => r.len + 1
  | _ => 0
theorem vg_tup {p : Pat} {k0 : Nat} {pos : Pos} (hc : X.calm = true) (hn : tgs.all noStar = true) (h : VGs X tgs p) (hp : ∃ q r, p = .cn q r)
    (hl : ∀ ds o σ σ', asgP p (.tup ds, o) σ = some σ' → ds.length = tgs.length) : VG X (.Tuple tgs k0 pos) p := by
  intro d o v f τ H Z g σ σ' Q hv r k e hq
  obtain ⟨l1, l2⟩ := assignEach_len (env := X.env) tgs hn
  have tup : ∃ a vs ds, v = .ref a ∧ d = .tup ds ∧ SqT X.K H a vs ∧ vs.length = ds.length ∧ ((o = .fz ∧ f = [] ∧ FDs X.K X.mg H Z vs ds) ∨ ∃ c, o = .tu c ∧ RT X.K X.mg H Z c vs ds f) := by
    rcases hv with hr | ⟨rfl, rfl, _, hr⟩
    · cases o with
      | fz =>
        obtain ⟨rfl, fd⟩ := R.fz_iff.mp hr
        cases fd with
        | tup h1 h2 h3 => exact ⟨_, _, _, rfl, rfl, sqT_frz h1, h3.length, .inl ⟨rfl, rfl, h3⟩⟩
        | _ => obtain ⟨q, r', rfl⟩ := hp; unfold asgP at e; cases e
      | tu c =>
        unfold R at hr
        obtain ⟨a, vs, ds, ob, rfl, rfl, h1, _, h2⟩ := hr
        exact ⟨a, vs, ds, rfl, rfl, sqT_frz h1, FDs.rt_len c h2, .inr ⟨c, rfl, h2⟩⟩
      | un c =>
        obtain ⟨q, r', rfl⟩ := hp
        unfold R at hr
        obtain ⟨_, _, _, _, ⟨_, _, rfl, _⟩ | ⟨_, _, rfl, _⟩⟩ := hr <;> (unfold asgP at e; cases e)
      | rc _ => unfold R at hr; exact hr.elim
      | nl => unfold R at hr; exact hr.elim
      | cn _ _ => unfold R at hr; exact hr.elim
    · rcases hr with fd | ⟨a, vs, ds, rfl, rfl, h1, h2⟩
      · cases fd with
        | tup h1 h2 h3 => exact ⟨_, _, _, rfl, rfl, sqT_frz h1, h3.length, .inl ⟨rfl, rfl, h3⟩⟩
        | _ => obtain ⟨q, r', rfl⟩ := hp; unfold asgP at e; cases e
      · exact ⟨a, vs, ds, rfl, rfl, h1, h2.length, .inl ⟨rfl, rfl, h2⟩⟩
  obtain ⟨a, vs, ds, rfl, rfl, hs, hle, hh⟩ := tup
  refine WG.of (pg_tup (n := tgs.length) hc (pgsW X tgs hn) l1 l2) ⟨a, vs, rfl, hs, hle.trans (hl ds o σ σ' e), ?_⟩
  exact h ds o vs f τ H Z g σ σ' Q hh r k e hq
end
/-! ### what is walked -/
def WI (X : Cx) (tg iter : Expr) (τ : L2.St) (H : Hp) (Rk : It → Hp → Prop) : Prop :=
  ∀ (pins : List (Addr × Obj)) (s : Shared), Inv X pins τ H s → wpAny (model X.prog X.w) X.A (eval iter X.env) (fun v s1 => wpAny (model X.prog X.w) X.A (pyIter v) (PIE X pins τ tg Rk) X.xe s1) X.xe s
theorem piW (X : Cx) (tg iter : Expr) : PI X tg iter (WI X tg iter) := ⟨fun pins s _ _ _ I h => h pins s I⟩
theorem WI.of {X : Cx} {tg iter : Expr} {wi : TI} (h : PI X tg iter wi) {τ : L2.St} {H : Hp} {Rk : It → Hp → Prop} (q : wi τ H Rk) : WI X tg iter τ H Rk := fun pins s I => h.run pins s τ H Rk I q
/-- it goes through the items ds, whatever else is done meanwhile -/
def Wk (K : PySem.W.Frag) (mg : Str → Option Value) (weak : Bool) (J : It) (ds : List D) (H0 : Hp) (Z0 : Addr → Prop) : Prop :=
  ∃ (G : Hp → Prop) (Y : Nat → Hp → V → Hp → Prop), Walk J ds.length G Y ∧ (∀ H Z, Stays H0 Z0 H Z → G H) ∧
    ∀ i H Z x H' d, Stays H0 Z0 H Z → Y i H x H' → ds[i]? = some d → Ext H H' [] ∧ (if weak then IT K mg H' Z x d else FD K mg H' Z x d)
/-- whether the items may be pairs just made -/
def VI (X : Cx) (W : WX) (tg iter : Expr) (weak : Bool) (m : M (List D)) : Prop :=
  ∀ τ H Z fp σ Rk, RSl X.K X.mg H Z σ τ fp → Ok H Z fp → Post X W τ H Z fp (fun ds σ' => ∀ J H' Z' g, Stp H Z fp H' Z' g → Ok H' Z' g → RSl X.K X.mg H' Z' σ' τ g → ds.length ≤ sizeLine → Wk X.K X.mg weak J ds H' Z' → Rk J H') (m σ) → WI X tg iter τ H Rk
section
variable {X : Cx} {W : WX} {tg iter : Expr}
theorem iter_list {pins : List (Addr × Obj)} {τ : L2.St} {H : Hp} {s : Shared} {a : Addr} {xs : List V} {Rk : It → Hp → Prop} (I : Inv X pins τ H s) (h : SqL X.K H a xs) (q : Rk (Itl X.K a) H) : wpAny (model X.prog X.w) X.A (pyIter (.ref a)) (PIE X pins τ tg Rk) X.xe s := by
  obtain ⟨its, rv, p, hz⟩ := I.list h
  refine wpAny_pyIter_list p.isList ?_
  refine ⟨s.heap.objs.size, [s.heap.objs.size], _, _, H, rfl, I.kept (t' := s.toks) fun b o e => Heap.get?_push_of_some _ e, turn_list a _, ⟨_, Heap.get?_push_size _ rfl, rfl, rfl⟩, fun b hb => ?_, q⟩
  have e : b = s.heap.objs.size := by simpa using hb
  subst e
  exact I.fpOk (Nat.le_refl _) (I.hok.fresh (Nat.le_refl _))
theorem iter_tup {pins : List (Addr × Obj)} {τ : L2.St} {H : Hp} {s : Shared} {a : Addr} {xs : List V} {Rk : It → Hp → Prop} (I : Inv X pins τ H s) (h : SqT X.K H a xs) (q : Rk (Itt X.K a) H) : wpAny (model X.prog X.w) X.A (pyIter (.ref a)) (PIE X pins τ tg Rk) X.xe s := by
  obtain ⟨its, rv, p, hz⟩ := I.tuple h
  refine wpAny_pyIter_tuple (show s.heap.IsTuple a its.toArray from p) ?_
  refine ⟨s.heap.objs.size, [s.heap.objs.size], _, _, H, rfl, I.kept (t' := s.toks) fun b o e => Heap.get?_push_of_some _ e, turn_tuple a _, ⟨_, Heap.get?_push_size _ rfl, rfl, rfl⟩, fun b hb => ?_, q⟩
  have e : b = s.heap.objs.size := by simpa using hb
  subst e
  exact I.fpOk (Nat.le_refl _) (I.hok.fresh (Nat.le_refl _))
theorem ext_nil {H : Hp} : Ext H H [] := Ext.refl
theorem wk_list {K : PySem.W.Frag} {mg : Str → Option Value} {H0 : Hp} {Z0 : Addr → Prop} {a : Addr} {xs : List V} {ds : List D} (h : H0 a = some (.lst xs)) (hz : Z0 a) (f : FDs K mg H0 Z0 xs ds) : Wk K mg false (Itl K a) ds H0 Z0 := by
  refine ⟨fun H => SqL K H a xs, YAt xs, by rw [← f.length]; exact walk_list, fun H Z s => .inl (.inl (s.z _ _ h hz)), fun i H Z x H' d s y e => ?_⟩
  obtain ⟨rfl, hx⟩ := y
  obtain ⟨v, hv, fd⟩ := f.get e
  rw [hx] at hv
  cases hv
  exact ⟨Ext.refl, fd.stay s⟩
theorem wk_tup {K : PySem.W.Frag} {mg : Str → Option Value} {H0 : Hp} {Z0 : Addr → Prop} {a : Addr} {o : Obj} {xs : List V} {ds : List D} (h : H0 a = some (.frz o (.tup xs))) (f : FDs K mg H0 Z0 xs ds) : Wk K mg false (Itt K a) ds H0 Z0 := by
  refine ⟨fun H => SqT K H a xs, YAt xs, by rw [← f.length]; exact walk_tup, fun H Z s => sqT_frz (s.frz _ _ _ h), fun i H Z x H' d s y e => ?_⟩
  obtain ⟨rfl, hx⟩ := y
  obtain ⟨v, hv, fd⟩ := f.get e
  rw [hx] at hv
  cases hv
  exact ⟨Ext.refl, fd.stay s⟩
/-- a value that is a sequence, frozen -/
theorem seq_frz {K : PySem.W.Frag} {mg : Str → Option Value} {H : Hp} {Z : Addr → Prop} {v : Val} {w : V} {f g : List Addr} {ds : List D} (r : R K mg H Z v.2 w v.1 f) (k : Ok H Z (f ++ g)) (e : seqOf v = some ds) :
    (∃ a xs, w = .ref a ∧ H a = some (.lst xs) ∧ zap Z f a ∧ FDs K mg H (zap Z f) xs ds) ∨ ∃ a o xs, w = .ref a ∧ H a = some (.frz o (.tup xs)) ∧ FDs K mg H (zap Z f) xs ds := by
  obtain ⟨d, o⟩ := v
  have fd : FD K mg H (zap Z f) w d := R.frz o r (fun a h => .inr h) fun a h => .inl h
  unfold seqOf at e
  split at e
  · rename_i q
    cases q
    cases e
    cases fd with
    | tup h1 h2 h3 => exact .inr ⟨_, _, _, rfl, h1, h3⟩
  · rename_i q
    cases q
    cases e
    cases fd with
    | lst h1 z h2 => exact .inl ⟨_, _, rfl, h1, z, h2⟩
  · rename_i q
    cases q
    cases e
    cases fd with
    | lst h1 z h2 => exact .inl ⟨_, _, rfl, h1, z, h2⟩
  · cases e
theorem vi_seq {m : M Val} (h : VE X W iter m) : VI X W tg iter false (m.bind fun v => M.of (seqOf v)) := by
  intro τ H Z fp σ Rk r k hp pins s I
  have main : WE X iter τ H (fun w H1 => (∃ a xs, w = .ref a ∧ SqL X.K H1 a xs ∧ (xs.length ≤ sizeLine → Rk (Itl X.K a) H1)) ∨ ∃ a xs, w = .ref a ∧ SqT X.K H1 a xs ∧ (xs.length ≤ sizeLine → Rk (Itt X.K a) H1)) := by
    refine h τ H Z fp σ _ r k (hp.bindOf.mono fun v σ1 q => ?_)
    obtain ⟨ds, e1, q⟩ := q
    intro w H1 Z1 f g s1 k1 ra rs
    obtain ⟨s2, k2⟩ := frz_step (K := X.K) (mg := X.mg) k1 (.refl _)
    have rs2 := rs.stay (zap_stays Z1 f) fun _ _ _ h => h
    rcases seq_frz ra k1 e1 with ⟨a, xs, rfl, hl, hz0, fd⟩ | ⟨a, o, xs, rfl, hl, fd⟩
    · refine .inl ⟨a, xs, rfl, .inl (.inl hl), fun hz => q _ H1 _ g (s1.trans s2) k2 rs2 (by rw [← fd.length]; exact hz) (wk_list hl hz0 fd)⟩
    · refine .inr ⟨a, xs, rfl, sqT_frz hl, fun hz => q _ H1 _ g (s1.trans s2) k2 rs2 (by rw [← fd.length]; exact hz) (wk_tup hl fd)⟩
  refine thn (main pins s I) fun u s1 ⟨w, H1, I1, rw', q⟩ => ?_
  rcases q with ⟨a, xs, rfl, hl, q⟩ | ⟨a, xs, rfl, hl, q⟩
  · cases rw'
    obtain ⟨_, _, _, hz⟩ := I1.list hl
    exact iter_list I1 hl (q hz)
  · cases rw'
    obtain ⟨_, _, _, hz⟩ := I1.tuple hl
    exact iter_tup I1 hl (q hz)
theorem rangeD_len (lo hi : Int) : (rangeD lo hi).length = (hi - lo).toNat := by unfold rangeD; rw [List.length_map, List.length_range]
theorem wk_range {K : PySem.W.Frag} {mg : Str → Option Value} {H0 : Hp} {Z0 : Addr → Prop} {lo hi : Int} : Wk K mg false (L2.Itr lo (hi - lo).toNat) (rangeD lo hi) H0 Z0 := by
  have hl : (rangeD lo hi).length = (hi - lo).toNat := by unfold rangeD; rw [List.length_map, List.length_range]
  refine ⟨fun _ => True, YFn fun i => .int (lo + i), by rw [hl]; exact walk_range, fun _ _ _ => trivial, fun i H Z x H' d s y e => ?_⟩
  obtain ⟨rfl, rfl⟩ := y
  unfold rangeD at e
  rw [List.getElem?_map] at e
  cases q : (List.range (hi - lo).toNat)[i]? with
  | none => rw [q] at e; cases e
  | some j =>
    rw [q] at e
    cases e
    have ej : j = i := by
      have := List.getElem?_eq_some_iff.mp q
      obtain ⟨h1, h2⟩ := this
      rw [List.getElem_range] at h2
      exact h2.symm
    subst ej
    exact ⟨Ext.refl, FD.int _⟩
theorem intOf_inv {v : Val} {i : Int} (h : intOf v = some i) : v.1 = .int i := by
  obtain ⟨d, o⟩ := v
  unfold intOf at h
  split at h
  · rename_i c _ e
    cases e
    cases h
    rfl
  · cases h
theorem R.int {K : PySem.W.Frag} {mg : Str → Option Value} {H : Hp} {Z : Addr → Prop} {o : Own} {v : V} {b : Int} {f : List Addr} (h : R K mg H Z o v (.int b) f) : v = .int b := by
  cases o with
  | fz => exact (show FL K mg H Z v (.int b) from .inl (R.fz_iff.mp h).2).int
  | un c => unfold R at h; obtain ⟨_, _, _, _, ⟨_, _, e, _⟩ | ⟨_, _, e, _⟩⟩ := h <;> cases e
  | tu c => unfold R at h; obtain ⟨_, _, _, _, _, e, _⟩ := h; cases e
  | rc _ => unfold R at h; exact h.elim
  | nl => unfold R at h; exact h.elim
  | cn _ _ => unfold R at h; exact h.elim
theorem rangeOk_inv {i : Int} (h : rangeOk i = true) : -(2 ^ 62) ≤ i ∧ i < 2 ^ 62 := by
  unfold rangeOk at h
  have h' := Bool.and_eq_true_iff.mp h
  exact ⟨of_decide_eq_true h'.1, of_decide_eq_true h'.2⟩
theorem vi_rng1 {m : M Val} {a : Expr} {p pos : Pos} (hg : Gl X "range") (hm : X.mg "range" = none) (hn : noStar a = true) (h : VE X W a m) : VI X W tg (.Call (.Name "range" p) [a] [] pos) false (m.bind fun v => M.of (match intOf v with
    | some j => if rangeOk j && decide (j ≤ 1000000) then some (rangeD 0 j) else none
    | none => none)) := by
  intro τ H Z fp σ Rk r k hp
  refine WI.of (pi_range1 hg hm (paW X [a] (by simp [hn])) (star_cons hn)) ?_
  show WE X a τ H _
  refine h τ H Z fp σ _ r k (hp.bindOf.mono fun v σ1 q => ?_)
  obtain ⟨ds, e1, q⟩ := q
  intro w H1 Z1 f g s1 k1 ra rs
  split at e1
  · rename_i j ej
    split at e1
    · rename_i hj0
      cases e1
      have hj1 := Bool.and_eq_true_iff.mp hj0
      obtain ⟨b1, b2⟩ := rangeOk_inv hj1.1
      have b5 : j ≤ 1000000 := of_decide_eq_true hj1.2
      rw [intOf_inv ej] at ra
      have ew : j.toNat = (j - 0).toNat := by rw [Int.sub_zero]
      refine ⟨j, by rw [ra.int], b1, b2, ?_⟩
      rw [ew]
      exact q _ H1 Z1 g (s1.less fun x h => List.mem_append_right _ h) k1.right rs (by rw [rangeD_len, sizeLine_eq]; omega) wk_range
    · cases e1
  · cases e1
theorem vi_rng2 {ma mb : M Val} {a b : Expr} {p pos : Pos} (hg : Gl X "range") (hm : X.mg "range" = none) (hn : noStar a = true) (hn2 : noStar b = true) (ha : VE X W a ma) (hb : VE X W b mb) : VI X W tg (.Call (.Name "range" p) [a, b] [] pos) false (ma.bind fun u => mb.bind fun v => M.of (match intOf u, intOf v with
    | some i, some j => if rangeOk i && rangeOk j && decide (j - i ≤ 1000000) then some (rangeD i j) else none
    | _, _ => none)) := by
  intro τ H Z fp σ Rk r k hp
  refine WI.of (pi_range2 hg hm (paW X [a, b] (by simp [hn, hn2])) (by rw [star_cons hn, star_cons hn2]; rfl) (star_cons hn2)) ?_
  show WE X a τ H _
  refine ve_then ha r k hp fun x σ1 v1 H1 Z1 f1 g1 s1 k1 ra1 rs1 q1 => ?_
  show WE X b τ H1 _
  refine hb τ H1 Z1 g1 σ1 _ rs1 k1.right (Post.step q1.bindOf s1 k1 fun y σ2 q2 => ?_)
  obtain ⟨ds, e1, q⟩ := q2
  intro v2 H2 Z2 f2 g2 s2 k2 ra2 rs2
  split at e1
  · rename_i i j ei ej
    split at e1
    · rename_i hj
      cases e1
      have hj0 := Bool.and_eq_true_iff.mp hj
      have hj' := Bool.and_eq_true_iff.mp hj0.1
      have b5 : j - i ≤ 1000000 := of_decide_eq_true hj0.2
      obtain ⟨b1, b2⟩ := rangeOk_inv hj'.1
      obtain ⟨b3, b4⟩ := rangeOk_inv hj'.2
      rw [intOf_inv ei] at ra1
      rw [intOf_inv ej] at ra2
      refine ⟨i, j, by rw [ra1.int, ra2.int], ⟨b1, b2, b3, b4⟩, ?_⟩
      have s12 : Stp H Z fp H2 Z2 g2 := (s1.trans (s2.more fun x h => List.mem_append_right _ h)).less fun x h => List.mem_append_right _ h
      exact q _ H2 Z2 g2 s12 k2.right rs2 (by rw [rangeD_len, sizeLine_eq]; omega) wk_range
    · cases e1
  · cases e1
theorem zipD_get : ∀ {xs ys : List D} {i : Nat} {d : D}, (zipD xs ys)[i]? = some d → ∃ x y, xs[i]? = some x ∧ ys[i]? = some y ∧ d = .tup [x, y]
  | [], _, i, d, e => by unfold zipD at e; simp at e
  | _ :: _, [], i, d, e => by unfold zipD at e; simp at e
  | x :: xs, y :: ys, 0, d, e => by
    unfold zipD at e
    simp at e
    exact ⟨x, y, rfl, rfl, e.symm⟩
  | x :: xs, y :: ys, i + 1, d, e => by
    unfold zipD at e
    obtain ⟨a, b, h1, h2, h3⟩ := zipD_get (i := i) (by simpa using e)
    exact ⟨a, b, by simpa using h1, by simpa using h2, h3⟩
theorem zipD_len : ∀ xs ys : List D, (zipD xs ys).length = min xs.length ys.length
  | [], _ => by unfold zipD; simp
  | _ :: _, [] => by unfold zipD; simp
  | x :: xs, y :: ys => by
    unfold zipD
    rw [List.length_cons, List.length_cons, List.length_cons, zipD_len xs ys]
    omega
theorem walk_zipT {K : PySem.W.Frag} {a b : Addr} {xs ys : List V} {n : Nat} (hn : n = min xs.length ys.length) : Walk (ItzT K a b) n (fun H => SqT K H a xs ∧ SqT K H b ys) (YPair (fun i => xs[i]?) (fun i => ys[i]?)) := by
  subst hn
  refine ⟨fun i _ hi q => ?_, fun _ q => ⟨xs, ys, q.1, q.2, by omega⟩, fun i H v H' _ q y => ?_⟩
  · have h1 : i < xs.length := by omega
    have h2 : i < ys.length := by omega
    exact ⟨xs, ys, xs[i], ys[i], q.1, q.2, by simp [h1], by simp [h2]⟩
  · obtain ⟨T, x, z, h1, h2, h3, h4, h5⟩ := y
    exact ⟨T, x, z, h1, h2, h3, h4 xs q.1, h5 ys q.2⟩
theorem pair_it {K : PySem.W.Frag} {mg : Str → Option Value} {H H' : Hp} {Z : Addr → Prop} {x : V} {xs ys : List V} {as bs : List D} {i : Nat} {d : D} (fa : FDs K mg H Z xs as) (fb : FDs K mg H Z ys bs) (y : YPair (fun i => xs[i]?) (fun i => ys[i]?) i H x H') (e : (zipD as bs)[i]? = some d) : Ext H H' [] ∧ IT K mg H' Z x d := by
  obtain ⟨T, u, w, rfl, hT, rfl, hu, hw⟩ := y
  obtain ⟨p, q, ep, eq, rfl⟩ := zipD_get e
  obtain ⟨u', hu', fu⟩ := fa.get ep
  obtain ⟨w', hw', fw⟩ := fb.get eq
  replace hu : xs[i]? = some u := hu
  replace hw : ys[i]? = some w := hw
  rw [hu] at hu'
  rw [hw] at hw'
  cases hu'
  cases hw'
  have ex : Ext H (upd H T (.tup [u, w])) [] := ⟨upd_ext hT, .inl rfl⟩
  exact ⟨ex, .inr ⟨T, [u, w], [p, q], rfl, rfl, .inl (.inl upd_same), .cons (fu.stay ex.stays) (.cons (fw.stay ex.stays) .nil)⟩⟩
theorem seqOf_kind {v : Val} {ds : List D} (h : seqOf v = some ds) : (v.1.kind = 2 ∧ v.1 = .tup ds) ∨ (v.1.kind = 3 ∧ v.1 = .lst ds) := by
  obtain ⟨d, o⟩ := v
  unfold seqOf at h
  split at h
  · rename_i e; cases e; cases h; exact .inl ⟨rfl, rfl⟩
  · rename_i e; cases e; cases h; exact .inr ⟨rfl, rfl⟩
  · rename_i e; cases e; cases h; exact .inr ⟨rfl, rfl⟩
  · cases h
theorem vi_zip {ma mb : M Val} {a b : Expr} {p pos tpos : Pos} {elts : List Expr} {kk : Nat} (hg : Gl X "zip") (hm : X.mg "zip" = none) (hn : noStar a = true) (hn2 : noStar b = true) (ha : VE X W a ma) (hb : VE X W b mb) :
    VI X W (.Tuple elts kk tpos) (.Call (.Name "zip" p) [a, b] [] pos) true (ma.bind fun u => mb.bind fun v => M.of (match seqOf u, seqOf v with
    | some xs, some ys => if u.1.kind = v.1.kind ∧ xs.length ≤ big then some (zipD xs ys) else none
    | _, _ => none)) := by
  intro τ H Z fp σ Rk r k hp
  refine WI.of (pi_zipA hg hm (paW X [a, b] (by simp [hn, hn2])) (star_cons hn) (by rw [star_cons hn2]; rfl)) ?_
  show WE X a τ H _
  refine ve_then ha r k hp fun u σ1 v1 H1 Z1 f1 g1 s1 k1 ra1 rs1 q1 => ?_
  show WE X b τ H1 _
  refine hb τ H1 Z1 g1 σ1 _ rs1 k1.right (Post.step q1.bindOf s1 k1 fun v σ2 q2 => ?_)
  obtain ⟨ds, e1, q⟩ := q2
  intro v2 H2 Z2 f2 g2 s2 k2 ra2 rs2
  cases eu : seqOf u with
  | none => rw [eu] at e1; cases e1
  | some xs =>
    cases ev : seqOf v with
    | none => rw [eu, ev] at e1; cases e1
    | some ys =>
      rw [eu, ev] at e1
      dsimp only at e1
      split at e1
      · rename_i hk0
        cases e1
        obtain ⟨hk, hbig⟩ := hk0
        have hzl : (zipD xs ys).length ≤ sizeLine := by
          rw [zipD_len]
          have := big_le
          omega
        have ra1' := R.stay (s2.stays k1.right) _ (s2.keep k1) ra1
        have k12 : Ok H2 Z2 (f1 ++ (f2 ++ g2)) := k1.with s2 k2
        have k3 : Ok H2 Z2 ((f1 ++ f2) ++ g2) := by rw [List.append_assoc]; exact k12
        obtain ⟨s4, k4⟩ := frz_step (K := X.K) (mg := X.mg) k3 (.refl _)
        have fd1 : FD X.K X.mg H2 (zap Z2 (f1 ++ f2)) v1 u.1 := R.frz _ ra1' (fun a h => .inr (List.mem_append_left _ h)) fun a h => .inl h
        have fd2 : FD X.K X.mg H2 (zap Z2 (f1 ++ f2)) v2 v.1 := R.frz _ ra2 (fun a h => .inr (List.mem_append_right _ h)) fun a h => .inl h
        have st : Stp H Z fp H2 (zap Z2 (f1 ++ f2)) g2 := by
          have a1 := s1.trans (s2.under k1)
          rw [← List.append_assoc] at a1
          exact a1.trans s4
        have rs4 := rs2.stay (zap_stays Z2 (f1 ++ f2)) fun _ _ _ h => h
        rcases seqOf_kind eu with ⟨ku, eu'⟩ | ⟨ku, eu'⟩
        · rcases seqOf_kind ev with ⟨kv, ev'⟩ | ⟨kv, ev'⟩
          · rw [eu'] at fd1
            rw [ev'] at fd2
            cases fd1 with
            | tup a1 a2 a3 =>
              cases fd2 with
              | tup b1 b2 b3 =>
                refine ⟨_, _, _, _, rfl, .inr ⟨sqT_frz a1, sqT_frz b1, q _ H2 _ g2 st k4 rs4 hzl ⟨_, _, walk_zipT (by rw [a3.length, b3.length, zipD_len]), fun H Z s => ⟨sqT_frz (s.frz _ _ _ a1), sqT_frz (s.frz _ _ _ b1)⟩, fun i H Z x H' d s y e => pair_it (a3.stay s) (b3.stay s) y e⟩⟩⟩
          · rw [ku, kv] at hk; cases hk
        · rcases seqOf_kind ev with ⟨kv, ev'⟩ | ⟨kv, ev'⟩
          · rw [ku, kv] at hk; cases hk
          · rw [eu'] at fd1
            rw [ev'] at fd2
            cases fd1 with
            | lst a1 az a3 =>
              cases fd2 with
              | lst b1 bz b3 =>
                refine ⟨_, _, _, _, rfl, .inl ⟨.inl (.inl a1), .inl (.inl b1), q _ H2 _ g2 st k4 rs4 hzl ⟨_, _, walk_zip (by rw [a3.length, b3.length, zipD_len]), fun H Z s => ⟨.inl (.inl (s.z _ _ a1 az)), .inl (.inl (s.z _ _ b1 bz))⟩, fun i H Z x H' d s y e => pair_it (a3.stay s) (b3.stay s) y e⟩⟩⟩
      · cases e1
end
/-! ### comprehensions -/
theorem wipe_get (τ : L2.St) : ∀ (vs : List Nat) (i : Nat), (wipe τ vs)[i]? = if i ∈ vs ∧ i < τ.length then some none else τ[i]?
  | [], i => by simp [wipe]
  | v :: vs, i => by
    unfold wipe
    by_cases h : v = i
    · subst h
      by_cases hl : v < τ.length
      · rw [List.getElem?_set_self (by rw [wipe_length]; exact hl), if_pos ⟨List.mem_cons_self, hl⟩]
      · rw [if_neg fun z => hl z.2, List.getElem?_eq_none (by rw [List.length_set, wipe_length]; omega), List.getElem?_eq_none (by omega)]
    · rw [List.getElem?_set_ne h, wipe_get τ vs i]
      by_cases hm : i ∈ vs
      · by_cases hl : i < τ.length
        · rw [if_pos ⟨hm, hl⟩, if_pos ⟨List.mem_cons_of_mem _ hm, hl⟩]
        · rw [if_neg fun z => hl z.2, if_neg fun z => hl z.2]
      · rw [if_neg fun z => hm z.1, if_neg fun z => by
          rcases List.mem_cons.mp z.1 with q | q
          · exact h q.symm
          · exact hm q]
theorem wipe_keeps {τ τ' : L2.St} {ps own : List Nat} (k : Keeps ps τ τ') (h : ∀ i ∈ ps, i ∈ own) : wipe τ' own = wipe τ own := by
  apply List.ext_getElem?
  intro i
  rw [wipe_get, wipe_get, k.1]
  by_cases hi : i ∈ own ∧ i < τ.length
  · rw [if_pos hi, if_pos hi]
  · rw [if_neg hi, if_neg hi]
    by_cases hm : i ∈ ps
    · have : ¬ i < τ.length := fun q => hi ⟨h i hm, q⟩
      rw [List.getElem?_eq_none (by rw [k.1]; omega), List.getElem?_eq_none (by omega)]
    · exact k.2 i hm
theorem wipe_wipe (τ : L2.St) (own : List Nat) : wipe (wipe τ own) own = wipe τ own := by
  apply List.ext_getElem?
  intro i
  rw [wipe_get, wipe_length]
  by_cases hi : i ∈ own ∧ i < τ.length
  · rw [if_pos hi, wipe_get, if_pos hi]
  · rw [if_neg hi]
section
variable {K : PySem.W.Frag} {mg : Str → Option Value} {H : Hp} {Z : Addr → Prop}
theorem RSl.setDead : ∀ {σ : Fr} {τ : L2.St} {g : List Addr} {i : Nat} {y : Option V}, RSl K mg H Z σ τ g → σ[i]? = some none → RSl K mg H Z σ (τ.set i y) g
  | _, _, _, i, y, .nil, e => by simp at e
  | _, _, _, 0, y, .dead r, _ => .dead r
  | _, _, _, i + 1, y, .dead r, e => .dead (RSl.setDead r (by simpa using e))
  | _, _, _, 0, y, .live _ _, e => by simp at e
  | _, _, _, i + 1, y, .live h r, e => .live h (RSl.setDead r (by simpa using e))
theorem RSl.dropFz : ∀ {σ : Fr} {τ : L2.St} {g : List Addr} {i : Nat} {d : D}, RSl K mg H Z σ τ g → σ[i]? = some (some (d, .fz)) → RSl K mg H Z (σ.set i none) τ g
  | _, _, _, i, d, .nil, e => by simp at e
  | _, _, _, 0, d, .dead r, e => by simp at e
  | _, _, _, i + 1, d, .dead r, e => .dead (RSl.dropFz r (by simpa using e))
  | _, _, _, 0, d, .live (o := o) (d := d') h r, e => by
    have e' : some (some (d', o)) = some (some (d, Own.fz)) := e
    cases e'
    obtain ⟨rfl, _⟩ := R.fz_iff.mp h
    exact .dead r
  | _, _, _, i + 1, d, .live h r, e => .live h (RSl.dropFz r (by simpa using e))
theorem wipeF_ok : ∀ {own : List Nat} {σ σ1 : Fr} {τ : L2.St} {g : List Addr}, RSl K mg H Z σ τ g → wipeF own σ = some σ1 →
    RSl K mg H Z σ1 τ g ∧ (∀ i ∈ own, σ1[i]? = some none) ∧ (∀ i : Nat, σ[i]? = some none → σ1[i]? = some none) ∧
      ∀ i ∈ own, slot σ i = none ∨ ∃ d v, slot σ i = some (d, .fz) ∧ τ[i]? = some (some v) ∧ FD K mg H Z v d
  | [], σ, σ1, τ, g, r, e => by
    cases e
    exact ⟨r, fun i h => absurd h (by simp), fun i h => h, fun i h => absurd h (by simp)⟩
  | i :: is, σ, σ1, τ, g, r, e => by
    unfold wipeF at e
    split at e
    · rename_i hi
      obtain ⟨h1, h2, h3, h4⟩ := wipeF_ok r e
      refine ⟨h1, fun j hj => ?_, h3, fun j hj => ?_⟩
      · rcases List.mem_cons.mp hj with rfl | hj
        · exact h3 j hi
        · exact h2 j hj
      · rcases List.mem_cons.mp hj with rfl | hj
        · exact .inl (by unfold slot; rw [hi]; rfl)
        · exact h4 j hj
    · rename_i d hi
      have hs : slot σ i = some (d, .fz) := by unfold slot; rw [hi]; rfl
      obtain ⟨v, f, g0, hv, hr, hrs, hp⟩ := r.take hs
      obtain ⟨rfl, fd⟩ := R.fz_iff.mp hr
      have hlt := slot_lt hs
      -- the footprint stays the same list
      have r' : RSl K mg H Z (σ.set i none) τ g := RSl.dropFz r hi
      obtain ⟨h1, h2, h3, h4⟩ := wipeF_ok r' e
      refine ⟨h1, fun j hj => ?_, fun j hj => h3 j ?_, fun j hj => ?_⟩
      · rcases List.mem_cons.mp hj with rfl | hj
        · exact h3 j (by rw [List.getElem?_set_self hlt])
        · exact h2 j hj
      · by_cases hij : i = j
        · subst hij
          rw [List.getElem?_set_self hlt]
        · rw [List.getElem?_set_ne hij]
          exact hj
      · rcases List.mem_cons.mp hj with rfl | hj
        · exact .inr ⟨d, v, hs, hv, fd⟩
        · rcases h4 j hj with q | ⟨d', v', q, hv', fd'⟩
          · by_cases hij : i = j
            · subst hij
              exact .inr ⟨d, v, hs, hv, fd⟩
            · refine .inl ?_
              unfold slot at q ⊢
              rw [List.getElem?_set_ne hij] at q
              exact q
          · by_cases hij : i = j
            · subst hij
              exact .inr ⟨d, v, hs, hv, fd⟩
            · refine .inr ⟨d', v', ?_, hv', fd'⟩
              unfold slot at q ⊢
              rw [List.getElem?_set_ne hij] at q
              exact q
    · cases e
theorem RSl.wiped : ∀ {own : List Nat} {σ : Fr} {τ : L2.St} {g : List Addr}, RSl K mg H Z σ τ g → (∀ i ∈ own, σ[i]? = some none) → RSl K mg H Z σ (wipe τ own) g
  | [], _, _, _, r, _ => r
  | i :: is, _, _, _, r, h => by
    unfold wipe
    exact (RSl.wiped r fun j hj => h j (List.mem_cons_of_mem _ hj)).setDead (h i List.mem_cons_self)
theorem putBack_ok {σ0 : Fr} {τ : L2.St} : ∀ {own : List Nat} {σ : Fr} {τ' : L2.St} {g : List Addr}, RSl K mg H Z σ τ' g → τ'.length = τ.length → (∀ j, j ∉ own → τ'[j]? = τ[j]?) →
    (∀ i ∈ own, slot σ0 i = none ∨ ∃ d v, slot σ0 i = some (d, .fz) ∧ τ[i]? = some (some v) ∧ FD K mg H Z v d) → ∃ g', RSl K mg H Z (putBack σ0 own σ) τ g' ∧ Sb g' g
  | [], σ, τ', g, r, hl, hk, _ => by
    have e : τ' = τ := List.ext_getElem? fun j => hk j (by simp)
    subst e
    exact ⟨g, r, Sb.refl _⟩
  | i :: is, σ, τ', g, r, hl, hk, h => by
    unfold putBack
    have rest : ∀ {τ'' : L2.St}, τ''.length = τ.length → (∀ j, j ≠ i → τ''[j]? = τ'[j]?) → (i < τ.length → τ''[i]? = τ[i]?) → ∀ j, j ∉ is → τ''[j]? = τ[j]? := fun {τ''} h1 h2 h3 j hj => by
      by_cases e : j = i
      · subst e
        by_cases hlt : j < τ.length
        · exact h3 hlt
        · rw [List.getElem?_eq_none (by omega), List.getElem?_eq_none (by omega)]
      · rw [h2 j e]
        exact hk j fun z => by
          rcases List.mem_cons.mp z with q | q
          · exact e q
          · exact hj q
    rcases h i List.mem_cons_self with q | ⟨d, v, q, hv, fd⟩
    · have e : (σ0[i]?).bind id = none := q
      rw [e]
      obtain ⟨g1, r1, sb1⟩ := r.dropAt (i := i)
      by_cases hi : i < σ.length
      · have r2 := r1.setDead (i := i) (y := (τ[i]?).bind id) (by rw [List.getElem?_set_self hi])
        have hi' : i < τ'.length := by rw [← r.length]; exact hi
        obtain ⟨g', r3, sb3⟩ := putBack_ok (own := is) r2 (by rw [List.length_set]; exact hl) (rest (by rw [List.length_set]; exact hl) (fun j e => by rw [List.getElem?_set_ne (Ne.symm e)]) fun hlt => by
          rw [List.getElem?_set_self hi', List.getElem?_eq_getElem hlt]
          rfl) fun j hj => h j (List.mem_cons_of_mem _ hj)
        exact ⟨g', r3, sb3.trans (Sb.sub sb1)⟩
      · obtain ⟨g', r3, sb3⟩ := putBack_ok (own := is) r1 hl (rest hl (fun _ _ => rfl) fun hlt => absurd hlt (by rw [← hl, ← r.length]; exact hi)) fun j hj => h j (List.mem_cons_of_mem _ hj)
        exact ⟨g', r3, sb3.trans (Sb.sub sb1)⟩
    · have e : (σ0[i]?).bind id = some (d, .fz) := q
      rw [e]
      have hi : i < σ.length := by
        rw [r.length, hl]
        exact (List.getElem?_eq_some_iff.mp hv).1
      obtain ⟨g0, g1, r1, p1, sb1⟩ := r.put hi (R.of_fd fd)
      have hi' : i < τ'.length := by rw [← r.length]; exact hi
      obtain ⟨g', r3, sb3⟩ := putBack_ok (own := is) r1 (by rw [List.length_set]; exact hl) (rest (by rw [List.length_set]; exact hl) (fun j e => by rw [List.getElem?_set_ne (Ne.symm e)]) fun hlt => by
        rw [List.getElem?_set_self hi', hv]) fun j hj => h j (List.mem_cons_of_mem _ hj)
      exact ⟨g', r3, sb3.trans ((Sb.perm p1).trans (Sb.sub sb1))⟩
end
/-- nothing is let out of a comprehension -/
abbrev WF : WX := fun _ _ _ _ => False
theorem takesF {X : Cx} : L2N.Takes X WF := fun _ _ x => by
  obtain ⟨_, _, _, _, _, _, _, _, _, _, _, _, _, _, _, _, z⟩ := x
  exact z.elim
/-- the block's context -/
abbrev bk (X : Cx) (s : Shared) (H : Hp) (scope : Scope) (cl : List (Str × Addr)) (C : Addr) (fp : List Addr) : Cx := X.blk s H scope (compEnvC scope cl C X.env) fp
/-- the tests of a comprehension: none, or one -/
def VC (X : Cx) (scope : Scope) (ifs : List Expr) (m : M Bool) : Prop := (ifs = [] ∧ m = M.pure true) ∨ ∃ c, ifs = [c] ∧ ∀ s H C cl fp, VT (bk X s H scope cl C fp) WF c m
section
variable {X : Cx} {W : WX} {elt tg iter : Expr} {ifs : List Expr} {scope : Scope} {pos : Pos}
/-- readings that hold in every block -/
def gB (X : Cx) (scope : Scope) (tg : Expr) : TG := fun v τ H Q => ∀ s H0 C cl fp, WG (bk X s H0 scope cl C fp) tg v τ H Q
def eB (X : Cx) (scope : Scope) (e : Expr) : TE := fun τ H Q => ∀ s H0 C cl fp, WE (bk X s H0 scope cl C fp) e τ H Q
def tB' (X : Cx) (scope : Scope) : List Expr → TT
  | [c] => fun τ H Q => ∀ s H0 C cl fp, WT (bk X s H0 scope cl C fp) c τ H Q
  | _ => tYes
theorem ptsB {m : M Bool} (h : VC X scope ifs m) : ∀ (s : Shared) (H : Hp) (C : Addr) (cl : List (Str × Addr)) (fp : List Addr), PTs (bk X s H scope cl C fp) ifs (tB' X scope ifs) := by
  intro s H C cl fp
  rcases h with ⟨rfl, _⟩ | ⟨c, rfl, _⟩
  · exact pts_nil
  · exact pts_one ⟨fun pins s' σ H' Q I q => q s H C cl fp pins s' I⟩
theorem clr_len : ∀ (own : List Nat) (σ : Fr), (clr own σ).length = σ.length
  | [], _ => rfl
  | i :: is, σ => by
    unfold clr
    rw [clr_len is, List.length_set]
theorem clr_none : ∀ (own : List Nat) (σ : Fr) (i : Nat), (i ∈ own ∨ σ[i]? = some none) → i < σ.length → (clr own σ)[i]? = some none
  | [], σ, i, h, _ => by
    rcases h with h | h
    · cases h
    · exact h
  | j :: is, σ, i, h, hl => by
    unfold clr
    refine clr_none is _ i ?_ (by rw [List.length_set]; exact hl)
    by_cases e : j = i
    · subst e
      exact .inr (List.getElem?_set_self hl)
    · rcases h with h | h
      · rcases List.mem_cons.mp h with q | q
        · exact absurd q.symm e
        · exact .inl q
      · exact .inr (by rw [List.getElem?_set_ne e]; exact h)
theorem RSl.clr {K : PySem.W.Frag} {mg : Str → Option Value} {H : Hp} {Z : Addr → Prop} : ∀ (own : List Nat) {σ : Fr} {τ : L2.St} {g : List Addr}, RSl K mg H Z σ τ g → ∃ g', RSl K mg H Z (Py.clr own σ) τ g' ∧ Sb g' g
  | [], σ, τ, g, r => ⟨g, r, Sb.refl _⟩
  | i :: is, σ, τ, g, r => by
    obtain ⟨g1, r1, s1⟩ := r.dropAt (i := i)
    obtain ⟨g2, r2, s2⟩ := RSl.clr is r1
    exact ⟨g2, r2, s2.trans (Sb.sub s1)⟩
/-- cleared, over the wiped slots of any state that differs in them alone -/
theorem RSl.wipeTo {K : PySem.W.Frag} {mg : Str → Option Value} {H : Hp} {Z : Addr → Prop} {own : List Nat} {σ : Fr} {τ τ' : L2.St} {g : List Addr} (r : RSl K mg H Z σ τ' g) (e : wipe τ' own = wipe τ own) : ∃ g', RSl K mg H Z (Py.clr own σ) (wipe τ own) g' ∧ Sb g' g := by
  obtain ⟨g1, r1, s1⟩ := r.clr own
  refine ⟨g1, ?_, s1⟩
  rw [← e]
  -- slots that are none may hold anything
  have gen : ∀ (l : List Nat) {τ1 : L2.St}, RSl K mg H Z (Py.clr own σ) τ1 g1 → (∀ i ∈ l, i ∈ own) → RSl K mg H Z (Py.clr own σ) (wipe τ1 l) g1 := by
    intro l
    induction l with
    | nil => intro τ1 r _; exact r
    | cons i is ih =>
      intro τ1 r h
      unfold wipe
      have r2 := ih r fun j hj => h j (List.mem_cons_of_mem _ hj)
      by_cases hi : i < σ.length
      · exact r2.setDead (clr_none own σ i (.inl (h i List.mem_cons_self)) hi)
      · have : (wipe τ1 is).set i none = wipe τ1 is := List.set_eq_of_length_le (by rw [wipe_length, ← r.length, clr_len]; omega)
        rw [this]
        exact r2
  exact gen own r1 fun i h => h
/-- the invariant of a comprehension's turns -/
structure CInv (K : PySem.W.Frag) (mg : Str → Option Value) (c : Own) (τ : L2.St) (own : List Nat) (cond : M Bool) (em : M Val) (p : Pat) (ds xsAll : List D) (σF : Fr) (Dl : Addr) (H1 : Hp) (Z1 : Addr → Prop) (g : List Addr) (i : Nat) (H : Hp) : Prop where
  ex : ∃ Z fa gs σi acc accd xs, Stp H1 Z1 g H Z (Dl :: (fa ++ gs)) ∧ Ok H Z (Dl :: (fa ++ gs)) ∧ H Dl = some (.lst acc) ∧ All3 (R K mg H Z c) acc accd fa ∧ RSl K mg H Z (clr own σi) (wipe τ own) gs ∧ acc.length ≤ i ∧
    compL cond em c own p (ds.drop i) σi = .ok xs σF ∧ accd ++ xs = xsAll
theorem All3.length {P : V → D → List Addr → Prop} : ∀ {vs : List V} {ds : List D} {g : List Addr}, All3 P vs ds g → vs.length = ds.length
  | _, _, _, .nil => rfl
  | _, _, _, .cons _ r => by rw [List.length_cons, List.length_cons, All3.length r]
theorem All3.snoc {P : V → D → List Addr → Prop} : ∀ {vs : List V} {ds : List D} {g : List Addr} {v : V} {d : D} {f : List Addr}, All3 P vs ds g → P v d f → All3 P (vs ++ [v]) (ds ++ [d]) (g ++ f)
  | _, _, _, v, d, f, .nil, h => by
    have : ([] : List Addr) ++ f = f ++ [] := by simp
    rw [this]
    exact .cons h .nil
  | _, _, _, v, d, f, .cons q r, h => by
    rw [List.append_assoc]
    exact .cons q (All3.snoc r h)
/-- an item that goes into a list whose items are held as c: frozen, or as it is -/
theorem itemV_ok {K : PySem.W.Frag} {mg : Str → Option Value} {H : Hp} {Z : Addr → Prop} {c : Own} {v : Val} {w : V} {x : D} {f g : List Addr} (r : R K mg H Z v.2 w v.1 f) (k : Ok H Z (f ++ g)) (e : itemV c v = some x) :
    ∃ Z' f', R K mg H Z' c w x f' ∧ Stp H Z (f ++ g) H Z' (f' ++ g) ∧ Ok H Z' (f' ++ g) ∧ Stays H Z H Z' := by
  unfold itemV at e
  split at e
  · rename_i hc
    cases e
    subst hc
    obtain ⟨s1, k1⟩ := frz_step (K := K) (mg := mg) k (.refl _)
    exact ⟨zap Z f, [], R.of_fd (r.frz _ (fun a h => .inr h) fun a h => .inl h), s1, k1, zap_stays Z f⟩
  · split at e
    · rename_i hc
      cases e
      rw [hc] at r
      exact ⟨Z, f, r, Stp.same, k, ⟨fun _ _ h => h, fun _ _ _ h => h, fun _ _ h _ => h, fun _ h => h⟩⟩
    · cases e
theorem comp_run {mi : M (List D)} {cond : M Bool} {em : M Val} {c : Own} {ow : List Nat} {p : Pat} {weak : Bool} (hi : VI X W tg iter weak mi) (hc : VC X scope ifs cond)
    (hg : ∀ s H C cl fp, VG (bk X s H scope cl C fp) tg p) (he : ∀ s H C cl fp, VE (bk X s H scope cl C fp) WF elt em) (hps : ∀ i ∈ p.slots, i ∈ ow) (hw : weak = true → ∃ q r, p = .cn q r)
    {τ : L2.St} {H : Hp} {Z : Addr → Prop} {fp : List Addr} {σ : Fr} {Q : VK} (r : RSl X.K X.mg H Z σ τ fp) (k : Ok H Z fp) (hp : Post X W τ H Z fp (kV1 X τ H Z fp Q) (compM mi cond em c ow p σ)) :
    tLc (WI X tg iter) (gB X scope tg) (tB' X scope ifs) (eB X scope elt) ow τ H Q := by
  refine hi τ H Z fp σ _ r k (hp.bind.mono fun ds σ1 q => ?_)
  intro J H1 Z1 g s1 k1 rs hlen wk Dl hD
  cases e1 : wipeF ow σ1 with
  | none => rw [e1] at q; exact q.elim
  | some σ2 =>
    rw [e1] at q
    dsimp only at q
    cases e2 : compL cond em c ow p ds σ2 with
    | bad => rw [e2] at q; exact q.elim
    | exn _ _ => rw [e2] at q; exact q.elim
    | ok xsAll σF =>
      rw [e2] at q
      replace q : kV1 X τ H Z fp Q (.lst xsAll, .un c) (putBack σ1 ow σF) := q
      obtain ⟨w1, w2, w3, w4⟩ := wipeF_ok rs e1
      have ex1 : Ext H1 (upd H1 Dl (.lst [])) [Dl] := ⟨upd_ext hD, .inr ⟨Dl, rfl, hD, by rw [upd_same]; trivial⟩⟩
      obtain ⟨G, Y, walk, hGs, hYs⟩ := wk
      have stl : ∀ {H2 : Hp} {Z2 : Addr → Prop} {fp2 : List Addr}, Stp H1 Z1 g H2 Z2 fp2 → Stays H1 Z1 H2 Z2 := fun s => s.stays k1
      refine lc_it walk (fun i H => CInv X.K X.mg c τ ow cond em p ds xsAll σF Dl H1 Z1 g i H) ?_ ?_ ?_ ?_
      · obtain ⟨s2, k2⟩ := ex1.step k1
        obtain ⟨g', r', sb'⟩ := (w1.stay ex1.stays fun x h u hu => ex1.1 x u hu).wipeTo (own := ow) rfl
        have sb2 : Sb (Dl :: ([] ++ g')) ([Dl] ++ g) := fun z => by
          have := sb' z
          simp only [List.nil_append, List.count_cons, List.count_append, List.singleton_append] at this ⊢
          omega
        exact ⟨Z1, [], g', σ2, [], [], xsAll, s2.sb sb2, k2.sb sb2, upd_same, .nil, r', Nat.zero_le _, e2, rfl⟩
      · rintro i H2 hi2 ⟨Z2, fa, gs, σi, acc, accd, xs, st, _⟩
        exact hGs H2 Z2 (stl st)
      · rintro i x H2 H3 hi2 ⟨Z2, fa, gs, σi, acc, accd, xs, st, ok2, hacc, a3, rsi, hal, ecomp, eall⟩ y
        obtain ⟨d, hd⟩ : ∃ d, ds[i]? = some d := ⟨ds[i], List.getElem?_eq_getElem hi2⟩
        obtain ⟨ex3, hit⟩ := hYs i H2 Z2 x H3 d (stl st) y hd
        have hdrop : ds.drop i = d :: ds.drop (i + 1) := by
          obtain ⟨hlt, hge⟩ := List.getElem?_eq_some_iff.mp hd
          rw [List.drop_eq_getElem_cons hlt, hge]
        rw [hdrop] at ecomp
        unfold compL at ecomp
        obtain ⟨s3, k3⟩ := ex3.step ok2
        rw [List.nil_append] at s3 k3
        have rs3 := rsi.stay ex3.stays fun x h u hu => ex3.1 x u hu
        have a33 : All3 (R X.K X.mg H3 Z2 c) acc accd fa := a3.imp fun v d f p' q' => p'.stay ex3.stays _ fun x h u hu => ex3.1 x u hu
        have hacc3 : H3 Dl = some (.lst acc) := ex3.1 _ _ hacc
        have st3 : Stp H1 Z1 g H3 Z2 (Dl :: (fa ++ gs)) := st.trans s3
        cases ea : asgP p (d, .fz) (clr ow σi) with
        | none => rw [ea] at ecomp; cases ecomp
        | some σ3 =>
          rw [ea] at ecomp
          dsimp only at ecomp
          have item : R X.K X.mg H3 Z2 .fz x d [] ∨ (Own.fz = .fz ∧ ([] : List Addr) = [] ∧ (∃ q r, p = .cn q r) ∧ IT X.K X.mg H3 Z2 x d) := by
            cases weak with
            | true => exact .inr ⟨rfl, rfl, hw rfl, hit⟩
            | false => exact .inl (R.of_fd hit)
          intro s0 H0 C0 cl0 fp0
          have kgs : Ok H3 Z2 gs := k3.sub (List.Sublist.cons _ (List.sublist_append_right _ _))
          refine hg s0 H0 C0 cl0 fp0 d .fz x [] (wipe τ ow) H3 Z2 gs _ σ3 _ item rs3 kgs ea fun τ4 g4 kp4 sb4 rs4 => ?_
          have hτ : wipe τ4 ow = wipe τ ow := by rw [wipe_keeps kp4 (fun i h => hps i h), wipe_wipe]
          refine ⟨hτ, ?_⟩
          rw [List.nil_append] at sb4
          -- what is held besides the frame: the list and its items
          have k4 : Ok H3 Z2 ((Dl :: fa) ++ g4) := k3.sb fun z => by
            have := sb4 z
            simp only [List.cons_append, List.count_cons, List.count_append] at this ⊢
            omega
          have st4 : Stp H1 Z1 g H3 Z2 ((Dl :: fa) ++ g4) := st3.sb fun z => by
            have := sb4 z
            simp only [List.cons_append, List.count_cons, List.count_append] at this ⊢
            omega
          -- a turn's end without an item
          have fin : ∀ {H5 : Hp} {Z5 : Addr → Prop} {g5 : List Addr} {σ5 : Fr} {xs5 : List D} {acc5 : List V} {accd5 : List D} {fa5 : List Addr}, Stp H1 Z1 g H5 Z5 ((Dl :: fa5) ++ g5) → Ok H5 Z5 ((Dl :: fa5) ++ g5) → H5 Dl = some (.lst acc5) →
              All3 (R X.K X.mg H5 Z5 c) acc5 accd5 fa5 → RSl X.K X.mg H5 Z5 σ5 τ4 g5 → acc5.length ≤ i + 1 → compL cond em c ow p (ds.drop (i + 1)) σ5 = .ok xs5 σF → accd5 ++ xs5 = xsAll →
              CInv X.K X.mg c τ ow cond em p ds xsAll σF Dl H1 Z1 g (i + 1) H5 := fun {H5 Z5 g5 σ5 xs5 acc5 accd5 fa5} st5 k5 hD5 a5 rs5 hl5 ec5 ea5 => by
            obtain ⟨g6, r6, sb6⟩ := rs5.wipeTo hτ
            have sb7 : Sb (Dl :: (fa5 ++ g6)) ((Dl :: fa5) ++ g5) := fun z => by
              have := sb6 z
              simp only [List.cons_append, List.count_cons, List.count_append] at this ⊢
              omega
            exact ⟨Z5, fa5, g6, σ5, acc5, accd5, xs5, st5.sb sb7, k5.sb sb7, hD5, a5, r6, hl5, ec5, ea5⟩
          -- an item
          have elem : ∀ {H5 : Hp} {Z5 : Addr → Prop} {g5 : List Addr} {σ5 : Fr}, Stp H3 Z2 g4 H5 Z5 g5 → Ok H5 Z5 g5 → RSl X.K X.mg H5 Z5 σ5 τ4 g5 →
              (match em σ5 with
                | .bad => .bad
                | .exn _ _ => .bad
                | .ok v σ3 => match itemV c v with
                  | none => .bad
                  | some x => match compL cond em c ow p (ds.drop (i + 1)) σ3 with
                    | .ok xs σ4 => .ok (x :: xs) σ4
                    | _ => .bad : Out (List D)) = .ok xs σF →
              eB X scope elt τ4 H5 fun y H6 => ∃ acc', H6 Dl = some (.lst acc') ∧ acc'.length < sizeLine ∧ CInv X.K X.mg c τ ow cond em p ds xsAll σF Dl H1 Z1 g (i + 1) (upd H6 Dl (.lst (acc' ++ [y]))) := fun {H5 Z5 g5 σ5} st5 k5 rs5 ec => by
            intro s0 H0 C0 cl0 fp0
            cases eem : em σ5 with
            | bad => rw [eem] at ec; cases ec
            | exn _ _ => rw [eem] at ec; cases ec
            | ok v σ6 =>
              rw [eem] at ec
              dsimp only at ec
              refine he s0 H0 C0 cl0 fp0 τ4 H5 Z5 g5 σ5 _ rs5 k5 ?_
              rw [eem]
              intro w H6 Z6 f6 g6 st6 k6 ra6 rs6
              cases eit : itemV c v with
              | none => rw [eit] at ec; cases ec
              | some x6 =>
                rw [eit] at ec
                dsimp only at ec
                cases erest : compL cond em c ow p (ds.drop (i + 1)) σ6 with
                | bad => rw [erest] at ec; cases ec
                | exn _ _ => rw [erest] at ec; cases ec
                | ok xs6 σ7 =>
                  rw [erest] at ec
                  cases ec
                  -- the list stays while the item is made
                  have kA : Ok H5 Z5 ((Dl :: fa) ++ g5) := k4.with st5 k5
                  have kB : Ok H6 Z6 ((Dl :: fa) ++ (f6 ++ g6)) := kA.with st6 k6
                  have hD6 : H6 Dl = some (.lst acc) := st6.keep kA Dl List.mem_cons_self _ (st5.keep k4 Dl List.mem_cons_self _ hacc3)
                  have a6 : All3 (R X.K X.mg H6 Z6 c) acc accd fa := by
                    have b1 : All3 (R X.K X.mg H5 Z5 c) acc accd fa := a33.imp fun v d f p' q' => p'.stay (st5.stays k4.right) _ fun x h u hu => st5.keep k4 x (List.mem_cons_of_mem _ (q' x h)) u hu
                    exact b1.imp fun v d f p' q' => p'.stay (st6.stays k5) _ fun x h u hu => st6.keep kA x (List.mem_cons_of_mem _ (q' x h)) u hu
                  refine ⟨acc, hD6, by omega, ?_⟩
                  -- the item goes in
                  have kC : Ok H6 Z6 (f6 ++ ((Dl :: fa) ++ g6)) := kB.perm (by
                    rw [← List.append_assoc, ← List.append_assoc]
                    exact List.Perm.append_right _ List.perm_append_comm)
                  obtain ⟨Z7, f7, r7, s7, k7, sy7⟩ := itemV_ok ra6 kC eit
                  have stAll : Stp H1 Z1 g H6 Z7 (f7 ++ ((Dl :: fa) ++ g6)) := by
                    have c1 : Stp H1 Z1 g H6 Z6 ((Dl :: fa) ++ (f6 ++ g6)) := (st4.trans (st5.under k4)).trans (st6.under kA)
                    have c2 : Stp H1 Z1 g H6 Z6 (f6 ++ ((Dl :: fa) ++ g6)) := c1.sb fun z => by
                      simp only [List.cons_append, List.count_cons, List.count_append]
                      omega
                    exact c2.trans s7
                  have hne : ∀ a ∈ f7 ++ (fa ++ g6), a ≠ Dl := fun a ha e => by
                    have nd := k7.nd
                    subst e
                    have := List.nodup_iff_count.mp nd a
                    have hpos := List.count_pos_iff.mpr ha
                    simp only [List.cons_append, List.count_cons, List.count_append, beq_self_eq_true, if_true] at this hpos
                    omega
                  -- the list is written
                  have stW : Stp H6 Z7 (f7 ++ ((Dl :: fa) ++ g6)) (upd H6 Dl (.lst (acc ++ [w]))) Z7 ((Dl :: (fa ++ f7)) ++ g6) := by
                    refine ⟨fun a o h hn => ?_, fun _ h => h, fun _ h => .inl h, fun a h => .inl ?_⟩
                    · rw [upd_ne]
                      · exact h
                      · rintro rfl
                        exact hn (List.mem_append_right _ (List.mem_append_left _ List.mem_cons_self))
                    · simp only [List.cons_append, List.mem_cons, List.mem_append] at h ⊢
                      rcases h with h | (h | h) | h
                      · exact .inr (.inl h)
                      · exact .inr (.inr (.inl h))
                      · exact .inl h
                      · exact .inr (.inr (.inr h))
                  have kW : Ok (upd H6 Dl (.lst (acc ++ [w]))) Z7 ((Dl :: (fa ++ f7)) ++ g6) := by
                    have kp : Ok H6 Z7 ((Dl :: (fa ++ f7)) ++ g6) := k7.sb fun z => by
                      simp only [List.cons_append, List.count_cons, List.count_append]
                      omega
                    refine ⟨kp.nd, fun a ha => ?_, kp.nz, fun a hz => ?_⟩
                    · by_cases e : a = Dl
                      · subst e
                        rw [upd_same]
                        trivial
                      · rw [upd_ne e]
                        exact kp.mb a ha
                    · by_cases e : a = Dl
                      · subst e
                        rw [upd_same]
                        exact fun q => nomatch q
                      · rw [upd_ne e]
                        exact kp.zt a hz
                  have stys : Stays H6 Z7 (upd H6 Dl (.lst (acc ++ [w]))) Z7 := stW.stays k7
                  have keepU : ∀ a ∈ f7 ++ (fa ++ g6), ∀ u, H6 a = some u → upd H6 Dl (.lst (acc ++ [w])) a = some u := fun a ha u hu => by
                    rw [upd_ne (hne a ha)]
                    exact hu
                  refine fin (accd5 := accd ++ [x6]) (fa5 := fa ++ f7) (stAll.trans stW) kW upd_same ?_ ?_ (by rw [List.length_append, List.length_singleton]; omega) erest (by rw [List.append_assoc]; exact eall)
                  · have b1 : All3 (R X.K X.mg H6 Z7 c) acc accd fa := a6.imp fun v d f p' q' => p'.stay sy7 _ fun _ _ _ hu => hu
                    have b2 := b1.snoc r7
                    exact b2.imp fun v d f p' q' => p'.stay stys _ fun x h u hu => keepU x (by
                      rcases List.mem_append.mp (q' x h) with z | z
                      · exact List.mem_append_right _ (List.mem_append_left _ z)
                      · exact List.mem_append_left _ z) u hu
                  · exact (rs6.stay sy7 fun _ _ _ hu => hu).stay stys fun x h u hu => keepU x (List.mem_append_right _ (List.mem_append_right _ h)) u hu
          rcases hc with ⟨rfl, rfl⟩ | ⟨cc, rfl, hcc⟩
          · -- no test
            unfold tB' tYes
            dsimp only
            rw [if_pos rfl]
            exact elem Stp.same k4.right rs4 ecomp
          · intro s0 H0 C0 cl0 fp0
            cases ec : cond σ3 with
            | bad => rw [ec] at ecomp; cases ecomp
            | exn _ _ => rw [ec] at ecomp; cases ecomp
            | ok b σ5 =>
              refine hcc s0 H0 C0 cl0 fp0 τ4 H3 Z2 g4 σ3 _ rs4 k4.right ?_
              rw [ec] at ecomp ⊢
              intro H5 Z5 g5 st5 k5 rs5
              cases b with
              | true =>
                rw [if_pos rfl]
                exact elem st5 k5 rs5 ecomp
              | false =>
                rw [if_neg Bool.false_ne_true]
                refine fin (st4.trans (st5.under k4)) (k4.with st5 k5) (st5.keep k4 Dl List.mem_cons_self _ hacc3) (a33.imp fun v d f p' q' => p'.stay (st5.stays k4.right) _ fun x h u hu => st5.keep k4 x (List.mem_cons_of_mem _ (q' x h)) u hu) rs5 (by omega) ecomp eall
      · rintro H2 ⟨Z2, fa, gs, σi, acc, accd, xs, st, ok2, hacc, a3, rsi, hal, ecomp, eall⟩
        rw [List.drop_eq_nil_of_le (Nat.le_refl _)] at ecomp
        unfold compL at ecomp
        cases ecomp
        rw [List.append_nil] at eall
        subst eall
        obtain ⟨g', r', sb'⟩ := putBack_ok (σ0 := σ1) (τ := τ) (own := ow) rsi (wipe_length _ _) (fun j hj => by rw [wipe_get, if_neg fun z => hj z.1]) (fun i hi => by
          rcases w4 i hi with z | ⟨d, v, z1, z2, z3⟩
          · exact .inl z
          · exact .inr ⟨d, v, z1, z2, z3.stay (stl st)⟩)
        have sb2 : Sb ((Dl :: fa) ++ g') (Dl :: (fa ++ gs)) := fun z => by
          have := sb' z
          simp only [List.cons_append, List.count_cons, List.count_append] at this ⊢
          omega
        refine q (.ref Dl) H2 Z2 (Dl :: fa) g' (s1.trans (st.sb sb2)) (ok2.sb sb2) ?_ r'
        unfold R
        exact ⟨Dl, fa, rfl, rfl, .inl ⟨acc, accd, rfl, hacc, a3⟩⟩
end
end Py

set_option Elab.async false
set_option linter.all false
set_option maxRecDepth 100000
set_option maxHeartbeats 4000000
/-! PyI: statements. -/
namespace Py
open PySem PySem.Spec PyProof.Rows L2
/-! ### a comprehension as a value, a dict's display, methods -/
section
variable {X : Cx} {W : WX} {elt tg iter e : Expr} {ifs : List Expr} {scope : Scope} {pos : Pos}
/-- no set display is walked -/
def noSet : Expr → Bool
  | .Set _ _ _ => false
  | _ => true
theorem noSet_eq {e : Expr} (h : noSet e = true) (env : Env) : ∀ x, foldedSetIterable e env x = pure x := by
  intro x
  cases e <;> first | rfl | cases h
theorem ve_comp {mi : M (List D)} {cond : M Bool} {em : M Val} {c : Own} {own : List (Str × Nat)} {p : Pat} {weak : Bool} (hcalm : X.calm = true) (hN : X.N.Nodup) (ok : BlkOk X.N X.env.scope scope own) (hs : noSet iter = true)
    (hi : VI X W tg iter weak mi) (hc : VC X scope ifs cond)
    (hg : ∀ s H C cl fp, VG (bk X s H scope cl C fp) tg p) (he : ∀ s H C cl fp, VE (bk X s H scope cl C fp) WF elt em) (hps : ∀ i ∈ p.slots, i ∈ own.map (·.2)) (hw : weak = true → ∃ q r, p = .cn q r) :
    VE X W (.ListComp elt [⟨tg, iter, ifs, 0⟩] scope pos) (compM mi cond em c (own.map (·.2)) p) := by
  intro τ H Z fp σ Q r k hp
  refine WE.of (pe_lc (g := gB X scope tg) (tt := tB' X scope ifs) (te := eB X scope elt) hcalm hN (piW X tg iter) ok (fun s H C cl fp => ⟨fun pins s' σ H' v u Q I r q => q s H C cl fp pins s' u I r⟩) (ptsB hc) (fun s H C cl fp => ⟨fun pins s' σ H' Q I q => q s H C cl fp pins s' I⟩) (noSet_eq hs X.env)) ?_
  exact comp_run hi hc hg he hps hw r k hp
end
/-! ### what a statement is for -/
def WS (X : Cx) (st : Stmt) (D : Ends) (τ : L2.St) (H : Hp) : Prop := ∀ (pins : List (Addr × Obj)) (s : Shared), Inv X pins τ H s → wpAny (model X.prog X.w) X.A (exec st X.env) (SP X pins D) X.xe s
theorem psW (X : Cx) (st : Stmt) : PS X st (WS X st) := ⟨fun pins s _ _ _ I h => h pins s I⟩
theorem WS.of {X : Cx} {st : Stmt} {t : TS} (h : PS X st t) {D : Ends} {τ : L2.St} {H : Hp} (q : t D τ H) : WS X st D τ H := fun pins s I => h.run pins s τ H D I q
def WB (X : Cx) (st : List Stmt) (D : Ends) (τ : L2.St) (H : Hp) : Prop := ∀ (pins : List (Addr × Obj)) (s : Shared), Inv X pins τ H s → wpAny (model X.prog X.w) X.A (execs st X.env) (SP X pins D) X.xe s
theorem pssW (X : Cx) (st : List Stmt) : PSs X st (WB X st) := ⟨fun pins s _ _ _ I h => h pins s I⟩
theorem WB.of {X : Cx} {st : List Stmt} {t : TS} (h : PSs X st t) {D : Ends} {τ : L2.St} {H : Hp} (q : t D τ H) : WB X st D τ H := fun pins s I => h.run pins s τ H D I q
/-- the slots of the written parameters hold what they held -/
def KpI (IO : List Nat) (τ τ' : L2.St) : Prop := τ'.length = τ.length ∧ ∀ i ∈ IO, τ'[i]? = τ[i]?
theorem KpI.refl (IO : List Nat) (τ : L2.St) : KpI IO τ τ := ⟨rfl, fun _ _ => rfl⟩
theorem KpI.trans {IO : List Nat} {τ τ1 τ2 : L2.St} (a : KpI IO τ τ1) (b : KpI IO τ1 τ2) : KpI IO τ τ2 := ⟨b.1.trans a.1, fun i h => (b.2 i h).trans (a.2 i h)⟩
theorem Keeps.kpI {ps IO : List Nat} {τ τ' : L2.St} (k : Keeps ps τ τ') (h : ∀ i ∈ ps, i ∉ IO) : KpI IO τ τ' := ⟨k.1, fun i hi => k.2 i fun z => h i z hi⟩
def PostS (X : Cx) (W : WX) (IO : List Nat) (τ : L2.St) (H : Hp) (Z : Addr → Prop) (fp : List Addr) (D : Ends) : Out Flow → Prop
  | .ok .next σ' => ∀ τ' H' Z' g, KpI IO τ τ' → Stp H Z fp H' Z' g → Ok H' Z' g → RSl X.K X.mg H' Z' σ' τ' g → D.nx τ' H'
  | .ok .brk σ' => ∀ τ' H' Z' g, KpI IO τ τ' → Stp H Z fp H' Z' g → Ok H' Z' g → RSl X.K X.mg H' Z' σ' τ' g → D.bk τ' H'
  | .ok .cnt σ' => ∀ τ' H' Z' g, KpI IO τ τ' → Stp H Z fp H' Z' g → Ok H' Z' g → RSl X.K X.mg H' Z' σ' τ' g → D.ct τ' H'
  | .ok (.ret v) σ' => ∀ w τ' H' Z' f g, KpI IO τ τ' → Stp H Z fp H' Z' (f ++ g) → Ok H' Z' (f ++ g) → R X.K X.mg H' Z' v.2 w v.1 f → RSl X.K X.mg H' Z' σ' τ' g → D.rt w H'
  | .exn c σ' => ∀ τ' H' Z' g, KpI IO τ τ' → Stp H Z fp H' Z' g → Ok H' Z' g → RSl X.K X.mg H' Z' σ' τ' g → ∀ C, X.mg c = some (.ref C) → W (.ref C) none τ' H'
  | .bad => False
def VS (X : Cx) (W : WX) (IO : List Nat) (st : Stmt) (m : M Flow) : Prop :=
  ∀ τ H Z fp σ D, RSl X.K X.mg H Z σ τ fp → Ok H Z fp → PostS X W IO τ H Z fp D (m σ) → WS X st D τ H
def VB (X : Cx) (W : WX) (IO : List Nat) (st : List Stmt) (m : M Flow) : Prop :=
  ∀ τ H Z fp σ D, RSl X.K X.mg H Z σ τ fp → Ok H Z fp → PostS X W IO τ H Z fp D (m σ) → WB X st D τ H
section
variable {X : Cx} {W : WX} {IO : List Nat} {τ τ1 : L2.St} {H H1 : Hp} {Z Z1 : Addr → Prop} {fp g : List Addr} {Dn : Ends}
/-- at a later state -/
theorem PostS.step {o : Out Flow} (h : PostS X W IO τ H Z fp Dn o) (k : KpI IO τ τ1) {f : List Addr} (s : Stp H Z fp H1 Z1 (f ++ g)) : PostS X W IO τ1 H1 Z1 g Dn o := by
  have st : ∀ {H' : Hp} {Z' : Addr → Prop} {g' : List Addr}, Stp H1 Z1 g H' Z' g' → Stp H Z fp H' Z' g' := fun s' => s.trans (s'.more fun a q => List.mem_append_right _ q)
  cases o with
  | bad => exact h
  | exn c σ' => exact fun τ' H' Z' g' kp s' k' r C m => h τ' H' Z' g' (k.trans kp) (st s') k' r C m
  | ok fl σ' =>
    cases fl with
    | next => exact fun τ' H' Z' g' kp s' k' r => h τ' H' Z' g' (k.trans kp) (st s') k' r
    | brk => exact fun τ' H' Z' g' kp s' k' r => h τ' H' Z' g' (k.trans kp) (st s') k' r
    | cnt => exact fun τ' H' Z' g' kp s' k' r => h τ' H' Z' g' (k.trans kp) (st s') k' r
    | ret v => exact fun w τ' H' Z' f' g' kp s' k' ra r => h w τ' H' Z' f' g' (k.trans kp) (st s') k' ra r
theorem PostS.step0 {o : Out Flow} (h : PostS X W IO τ H Z fp Dn o) (k : KpI IO τ τ1) (s : Stp H Z fp H1 Z1 g) : PostS X W IO τ1 H1 Z1 g Dn o := PostS.step (f := []) h k s
/-- an expression first -/
theorem PostS.expr {α : Type} {m : M α} {F : α → M Flow} {σ : Fr} (h : PostS X W IO τ H Z fp Dn (m.bind F σ)) : Post X W τ H Z fp (fun a σ' => PostS X W IO τ H Z fp Dn (F a σ')) (m σ) := by
  unfold M.bind at h
  cases e : m σ with
  | ok a σ' => rw [e] at h; exact h
  | exn c σ' =>
    rw [e] at h
    exact fun H' Z' g s k r C m => h τ H' Z' g (KpI.refl _ _) s k r C m
  | bad => rw [e] at h; exact h
/-! ### one by one -/
variable {e tg : Expr} {pos : Pos}
theorem vs_asg {m : M Val} {p : Pat} (h : VE X W e m) (hg : VG X tg p) (hp : ∀ i ∈ p.slots, i ∉ IO) (hs : swapsWithSole [tg] e pos.line X.env = pure false) (hw : swappedStores [tg] e X.env = pure none) (hn : noStar tg = true) :
    VS X W IO (.Assign [tg] e pos) (m.bind fun v σ => match asgP p v σ with
    | some σ' => .ok .next σ'
    | none => .bad) := by
  intro τ H Z fp σ D r k hq
  refine WS.of (ps_asg (peW X e) (pgW X tg) hs hw (by rw [assignEach_cons hn]; rfl)) ?_
  refine h τ H Z fp σ _ r k (hq.expr.mono fun v σ1 q => ?_)
  intro w H1 Z1 f g s1 k1 ra rs
  cases ea : asgP p v σ1 with
  | none => rw [ea] at q; exact q.elim
  | some σ2 =>
    rw [ea] at q
    obtain ⟨d, o⟩ := v
    refine hg d o w f τ H1 Z1 g σ1 σ2 _ (.inl ra) rs k1 ea fun τ2 g2 kp sb rs2 => ?_
    exact q τ2 H1 Z1 g2 (kp.kpI hp) (s1.sb sb) (k1.sb sb) rs2
theorem vs_asgLc {elt iter ltg : Expr} {ifs : List Expr} {scope : Scope} {lpos py : Pos} {mi : M (List D)} {cond : M Bool} {em : M Val} {c : Own} {own : List (Str × Nat)} {p : Pat} {weak : Bool} {i : Nat} {y : Str} (hcalm : X.calm = true) (hN : X.N.Nodup) (ok : BlkOk X.N X.env.scope scope own) (hset : noSet iter = true)
    (hi : VI X W ltg iter weak mi) (hc : VC X scope ifs cond)
    (hg : ∀ s H C cl fp, VG (bk X s H scope cl C fp) ltg p) (he : ∀ s H C cl fp, VE (bk X s H scope cl C fp) WF elt em) (hps : ∀ i ∈ p.slots, i ∈ own.map (·.2)) (hw : weak = true → ∃ q r, p = .cn q r)
    (hy : X.N[i]? = some y) (hyl : X.env.scope.names.lookup y = some .local) (hsw : swapsWith (.ListComp elt [⟨ltg, iter, ifs, 0⟩] scope lpos) (some (.Name y py)) pos.line X.env = pure true) (hio : i ∉ IO) :
    VS X W IO (.Assign [.Name y py] (.ListComp elt [⟨ltg, iter, ifs, 0⟩] scope lpos) pos) ((compM mi cond em c (own.map (·.2)) p).bind fun v σ => match asgP (.nm i) v σ with
    | some σ' => .ok .next σ'
    | none => .bad) := by
  intro τ H Z fp σ D r k hq
  refine WS.of (ps_setLc (g := gB X scope ltg) (tt := tB' X scope ifs) (te := eB X scope elt) hcalm hN hy hyl hsw (piW X ltg iter) ok (fun s H C cl fp => ⟨fun pins s' σ H' v u Q I r q => q s H C cl fp pins s' u I r⟩) (ptsB hc) (fun s H C cl fp => ⟨fun pins s' σ H' Q I q => q s H C cl fp pins s' I⟩) (noSet_eq hset X.env)) ?_
  refine comp_run hi hc hg he hps hw r k (hq.expr.mono fun v σ1 q => ?_)
  intro w H1 Z1 f g s1 k1 ra rs
  unfold asgP at q
  split at q
  · rename_i σ2 e2
    split at e2
    · rename_i hi2
      cases e2
      obtain ⟨g0, g', h1, h2, h3⟩ := rs.put hi2 ra
      have sb : Sb g' (f ++ g) := (Sb.perm h2).trans ((Sb.refl f).app (Sb.sub h3))
      exact q _ H1 Z1 g' (Keeps.kpI Keeps.set (fun j hj => by
        have : j = i := by simpa using hj
        rw [this]
        exact hio)) (s1.sb sb) (k1.sb sb) h1
    · cases e2
  · exact q.elim
theorem vs_par2 {a b : Expr} {ma : M (List Val)} {i j : Nat} {x y : Str} {px py pt : Pos} {kt k2 pt2} (hc : X.calm = true) (hN : X.N.Nodup) (hi : X.N[i]? = some x) (hj : X.N[j]? = some y) (hij : i ≠ j)
    (hx : X.env.scope.names.lookup x = some .local) (hy : X.env.scope.names.lookup y = some .local) (hn : [a, b].all noStar = true) (h : VL X W [a, b] ma) (hI : i ∉ IO) (hJ : j ∉ IO)
    (hw : swappedStores [.Tuple [.Name x px, .Name y py] kt pt] (.Tuple [a, b] k2 pt2) X.env = pure (some [x, y])) :
    VS X W IO (.Assign [.Tuple [.Name x px, .Name y py] kt pt] (.Tuple [a, b] k2 pt2) pos) (ma.bind fun vs σ => match setAll [i, j] vs σ with
    | some σ' => .ok .next σ'
    | none => .bad) := by
  intro τ H Z fp σ D r k hq
  refine WS.of (ps_par hc hN hi hj hij hx hy (paW X [a, b] hn) hw) ?_
  refine h τ H Z fp σ _ r k (hq.expr.mono fun vs σ1 q => ?_)
  intro ws H1 Z1 f g s1 k1 rv rs
  match vs, rv with
  | [], _ => exact q.elim
  | [_], _ =>
    unfold setAll at q
    split at q
    · rename_i z
      split at z
      · unfold setAll at z; cases z
      · cases z
    · exact q.elim
  | (d1, o1) :: (d2, o2) :: [], .cons (v := v) (f := f1) h1 (.cons (v := w) (f := f2) h2 .nil) =>
    refine ⟨v, w, rfl, ?_⟩
    unfold setAll at q
    split at q
    · rename_i σ2 z
      split at z
      · rename_i hi2
        unfold setAll at z
        split at z
        · rename_i hj2
          unfold setAll at z
          cases z
          obtain ⟨g0, g1, a1, a2, a3⟩ := rs.put hi2 h1
          obtain ⟨g2, g3, b1, b2, b3⟩ := a1.put hj2 h2
          have sb : Sb g3 ((f1 ++ (f2 ++ [])) ++ g) := fun z => by
            have c1 := a2.count_eq z
            have c2 := a3.count_le z
            have c3 := b2.count_eq z
            have c4 := b3.count_le z
            simp only [List.count_append, List.append_nil] at c1 c3 ⊢
            omega
          refine q _ H1 Z1 g3 ?_ (s1.sb sb) (k1.sb sb) b1
          refine (Keeps.kpI Keeps.set (fun z hz => ?_)).trans (Keeps.kpI Keeps.set fun z hz => ?_)
          · have : z = i := by simpa using hz
            rw [this]
            exact hI
          · have : z = j := by simpa using hz
            rw [this]
            exact hJ
        · cases z
      · cases z
    · exact q.elim
  | _ :: _ :: _ :: _, _ =>
    exfalso
    unfold setAll at q
    split at q
    · rename_i z
      split at z
      · unfold setAll at z
        split at z
        · unfold setAll at z; cases z
        · cases z
      · cases z
    · exact q
/-- a list of one's own is written -/
theorem own_lst {K : PySem.W.Frag} {mg : Str → Option Value} {H : Hp} {Z : Addr → Prop} {σ : Fr} {τ : L2.St} {g : List Addr} {i : Nat} {ds : List D} {c : Own} (r : RSl K mg H Z σ τ g) (e : slot σ i = some (.lst ds, .un c)) :
    ∃ a vs fa g0, τ[i]? = some (some (.ref a)) ∧ H a = some (.lst vs) ∧ All3 (R K mg H Z c) vs ds fa ∧ RSl K mg H Z (σ.set i none) τ g0 ∧ g.Perm ((a :: fa) ++ g0) := by
  obtain ⟨v, f, g0, hv, hr, hs, hp⟩ := r.take e
  unfold R at hr
  obtain ⟨a, fa, rfl, rfl, ⟨vs, ds', e1, ha, a3⟩ | ⟨vs, ds', e1, _⟩⟩ := hr
  · cases e1
    exact ⟨a, vs, fa, g0, hv, ha, a3, hs, hp⟩
  · cases e1
theorem wr_lst {K : PySem.W.Frag} {mg : Str → Option Value} {H : Hp} {Z : Addr → Prop} {σ : Fr} {τ : L2.St} {g0 fa fa' rest : List Addr} {a : Addr} {i : Nat} {vs' : List V} {ds' : List D} {c : Own} (hi : i < σ.length) (hv : τ[i]? = some (some (.ref a)))
    (rs : RSl K mg H Z (σ.set i none) τ g0) (k : Ok H Z (rest ++ ((a :: fa) ++ g0))) (a3 : All3 (R K mg H Z c) vs' ds' fa') (sb : Sb fa' (rest ++ fa)) :
    ∃ g', Stp H Z (rest ++ ((a :: fa) ++ g0)) (upd H a (.lst vs')) Z g' ∧ Ok (upd H a (.lst vs')) Z g' ∧ RSl K mg (upd H a (.lst vs')) Z (σ.set i (some (.lst ds', .un c))) τ g' := by
  have cnt : ∀ z, List.count z (rest ++ ((a :: fa) ++ g0)) ≤ 1 := fun z => List.nodup_iff_count.mp k.nd z
  have ne : ∀ b ∈ fa' ++ g0, b ≠ a := fun b hb e => by
    subst e
    have c1 := cnt b
    have c2 := sb b
    have c3 := List.count_pos_iff.mpr hb
    simp only [List.cons_append, List.count_cons, List.count_append, beq_self_eq_true, if_true] at c1 c2 c3
    omega
  have st0 : Stp H Z (rest ++ ((a :: fa) ++ g0)) (upd H a (.lst vs')) Z ((a :: fa') ++ g0) := by
    refine ⟨fun b o h hn => ?_, fun _ h => h, fun _ h => .inl h, fun b hb => .inl ?_⟩
    · rw [upd_ne]
      · exact h
      · rintro rfl
        exact hn (List.mem_append_right _ (List.mem_append_left _ List.mem_cons_self))
    · simp only [List.cons_append, List.mem_cons, List.mem_append] at hb ⊢
      rcases hb with hb | hb | hb
      · exact .inr (.inl hb)
      · have := sb.mem hb
        rcases List.mem_append.mp this with q | q
        · exact .inl q
        · exact .inr (.inr (.inl q))
      · exact .inr (.inr (.inr hb))
  have k0 : Ok H Z ((a :: fa') ++ g0) := k.sb fun z => by
    have c2 := sb z
    simp only [List.cons_append, List.count_cons, List.count_append] at c2 ⊢
    omega
  have k1 : Ok (upd H a (.lst vs')) Z ((a :: fa') ++ g0) := by
    refine ⟨k0.nd, fun b hb => ?_, k0.nz, fun b hz => ?_⟩
    · by_cases e : b = a
      · subst e
        rw [upd_same]
        trivial
      · rw [upd_ne e]
        exact k0.mb b hb
    · by_cases e : b = a
      · subst e
        rw [upd_same]
        exact fun q => nomatch q
      · rw [upd_ne e]
        exact k0.zt b hz
  have sy : Stays H Z (upd H a (.lst vs')) Z := st0.stays k
  have keep : ∀ b ∈ fa' ++ g0, ∀ u, H b = some u → upd H a (.lst vs') b = some u := fun b hb u hu => by
    rw [upd_ne (ne b hb)]
    exact hu
  have rs1 := rs.stay sy fun b hb u hu => keep b (List.mem_append_right _ hb) u hu
  have hR : R K mg (upd H a (.lst vs')) Z (.un c) (.ref a) (.lst ds') (a :: fa') := by
    unfold R
    exact ⟨a, fa', rfl, rfl, .inl ⟨vs', ds', rfl, upd_same, a3.imp fun v d f p q => p.stay sy _ fun b hb u hu => keep b (List.mem_append_left _ (q b hb)) u hu⟩⟩
  obtain ⟨g1, g', h1, h2, h3⟩ := rs1.fill (i := i) (by rw [List.length_set]; exact hi) hv hR
  rw [List.set_set] at h1
  have sb1 : Sb g' ((a :: fa') ++ g0) := (Sb.perm h2).trans ((Sb.refl _).app (Sb.sub h3))
  exact ⟨g', st0.sb sb1, k1.sb sb1, h1⟩
theorem All3.set {P : V → D → List Addr → Prop} : ∀ {vs : List V} {ds : List D} {fa : List Addr} {w : V} {x : D} {fx : List Addr} (m : Nat), All3 P vs ds fa → P w x fx → ∃ fa', All3 P (vs.set m w) (ds.set m x) fa' ∧ Sb fa' (fx ++ fa)
  | _, _, _, w, x, fx, m, .nil, _ => ⟨[], .nil, fun z => by simp⟩
  | _, _, _, w, x, fx, 0, .cons (f := f) (g := g) h r, q => ⟨fx ++ g, .cons q r, fun z => by
      simp only [List.count_append]
      omega⟩
  | _, _, _, w, x, fx, m + 1, .cons (f := f) (g := g) h r, q => by
    obtain ⟨fa', a1, a2⟩ := All3.set m r q
    refine ⟨f ++ fa', .cons h a1, fun z => ?_⟩
    have := a2 z
    simp only [List.count_append] at this ⊢
    omega
/-! ### lists of one's own changed -/
/-- a method's call must be on one line -/
def oneLine (apos cpos : Pos) : Bool := apos.endLine == cpos.line
theorem few_of {env : Env} {cpos : Pos} : ∀ (es : List Expr), es.all noStar = true → (backTo cpos (starEach es env)).all (fun x => !x.1) = true ∧ (backTo cpos (starEach es env)).any (·.1) = false
  | [], _ => ⟨rfl, rfl⟩
  | e :: es, h => by
    rw [List.all_cons] at h
    have h' := Bool.and_eq_true_iff.mp h
    obtain ⟨a, b⟩ := few_of (env := env) (cpos := cpos) es h'.2
    rw [star_cons h'.1]
    exact ⟨a, b⟩
theorem few1 {env : Env} {cpos : Pos} {e : Expr} (h : noStar e = true) : ((backTo cpos (starEach [e] env)).all (fun x => !x.1) && (backToKw cpos (keywordEach [] env)).all (fun x => x.1.isSome)
      && decide (([e] : List Expr).length + ([] : List Keyword).length + (if ([] : List Keyword).isEmpty then 0 else 1) < 30)) = true := by
  rw [(few_of (env := env) (cpos := cpos) [e] (by simp [h])).1]
  rfl
/-- a name is no call of super -/
theorem base_name {x m : Str} {p : Pos} {env : Env} : attributeBase (.Name x p) m env (eval (.Name x p) env) = eval (.Name x p) env := rfl
theorem vs_app {m : M Val} {i : Nat} {x : Str} {p apos cpos : Pos} (hv : PE X (.Name x p) (tVar i)) (h : VE X W e m) (hn : noStar e = true) (hl : oneLine apos cpos = true) :
    VS X W IO (.Expr (.Call (.Attribute (.Name x p) "append" apos) [e] [] cpos) pos) ((isL i).bind fun _ => m.bind fun v σ => match slot σ i with
    | some (.lst ds, .un c) => match itemV c v with
      | some x => if ds.length < big then .ok .next (σ.set i (some (.lst (ds ++ [x]), .un c))) else .bad
      | none => .bad
    | _ => .bad) := by
  intro τ H Z fp σ Dn r k hq
  refine WS.of (ps_expr (pe_bm PySem.F.plainAttrs_list PySem.F.slot_list_append PySem.F.type_list_append mt_append hv (paW X [e] (by simp [hn])) base_name (few1 hn) hl (star_cons hn) rfl)) ?_
  unfold M.bind at hq
  cases e0 : isL i σ with
  | bad => rw [e0] at hq; exact hq.elim
  | exn c s => unfold isL at e0; split at e0 <;> cases e0
  | ok u σ0 =>
    rw [e0] at hq
    dsimp only at hq
    unfold isL at e0
    split at e0
    · rename_i ds0 o0 es0
      cases e0
      obtain ⟨v0, f0, g0, hv0, hr0, _⟩ := r.take es0
      refine ⟨v0, hv0, ?_, ?_⟩
      · -- it is a list
        have : ∃ a vs, v0 = .ref a ∧ H a = some (.lst vs) := by
          cases o0 with
          | fz =>
            have fd := (R.fz_iff.mp hr0).2
            cases fd with
            | lst h1 _ _ => exact ⟨_, _, rfl, h1⟩
          | un c =>
            unfold R at hr0
            obtain ⟨a, _, rfl, _, ⟨vs, _, _, ha, _⟩ | ⟨_, _, q, _⟩⟩ := hr0
            · exact ⟨a, vs, rfl, ha⟩
            · cases q
          | tu c => unfold R at hr0; obtain ⟨_, _, _, _, _, q, _⟩ := hr0; cases q
          | rc _ => unfold R at hr0; exact hr0.elim
          | nl => unfold R at hr0; exact hr0.elim
          | cn _ _ => unfold R at hr0; exact hr0.elim
        obtain ⟨a, vs, rfl, ha⟩ := this
        exact .inl ⟨rfl, vs, .inl (.inl ha)⟩
      · show WE X e τ H _
        refine h τ H Z fp σ _ r k ((PostS.expr (F := fun v σ => match slot σ i with
            | some (.lst ds, .un c) => match itemV c v with
              | some x => if ds.length < big then .ok .next (σ.set i (some (.lst (ds ++ [x]), .un c))) else .bad
              | none => .bad
            | _ => .bad) hq).mono fun v σ1 q => ?_)
        intro w H1 Z1 f g s1 k1 ra rs
        split at q
        · rename_i ds c es1
          cases ei : itemV c v with
          | none => rw [ei] at q; exact q.elim
          | some y =>
            rw [ei] at q
            dsimp only at q
            split at q
            · rename_i hlen
              obtain ⟨a, vs, fa, g1, hv1, ha, a3, rs1, pm⟩ := own_lst rs es1
              rw [hv0] at hv1
              cases hv1
              have hlv := a3.length
              have := big_le
              have k1' : Ok H1 Z1 (f ++ ((a :: fa) ++ g1)) := k1.perm (List.Perm.append_left f pm.symm)
              obtain ⟨Z2, f2, r2, s2, k2, sy2⟩ := itemV_ok ra k1' ei
              refine ⟨a, vs, w, rfl, rfl, ha, by omega, ?_⟩
              have a32 : All3 (R X.K X.mg H1 Z2 c) (vs ++ [w]) (ds ++ [y]) (fa ++ f2) := (a3.imp fun v d f p q => p.stay sy2 _ fun _ _ _ hu => hu).snoc r2
              obtain ⟨g3, s3, k3, rs3⟩ := wr_lst (rest := f2) (slot_lt es1) hv0 (rs1.stay sy2 fun _ _ _ hu => hu) k2 a32 (fun z => by
                simp only [List.count_append]
                omega)
              refine q τ _ Z2 g3 (KpI.refl _ _) ?_ k3 rs3
              refine ((s1.sb ?_).trans s2).trans s3
              exact (Sb.refl f).app (Sb.perm pm.symm)
            · exact q.elim
        · exact q.elim
    · cases e0
theorem vs_ext {m : M Val} {i : Nat} {x : Str} {p apos cpos : Pos} (hv : PE X (.Name x p) (tVar i)) (h : VE X W e m) (hn : noStar e = true) (hl : oneLine apos cpos = true) :
    VS X W IO (.Expr (.Call (.Attribute (.Name x p) "extend" apos) [e] [] cpos) pos) ((isL i).bind fun _ => m.bind fun v σ => match slot σ i, lstOf v with
    | some (.lst ds, .un .fz), some xs => if ds.length + xs.length ≤ big then .ok .next (σ.set i (some (.lst (ds ++ xs), .un .fz))) else .bad
    | _, _ => .bad) := by
  intro τ H Z fp σ Dn r k hq
  refine WS.of (ps_expr (pe_bm PySem.F.plainAttrs_list PySem.F.slot_list_extend PySem.F.type_list_extend mt_extend hv (paW X [e] (by simp [hn])) base_name (few1 hn) hl (star_cons hn) rfl)) ?_
  unfold M.bind at hq
  cases e0 : isL i σ with
  | bad => rw [e0] at hq; exact hq.elim
  | exn c s => unfold isL at e0; split at e0 <;> cases e0
  | ok u σ0 =>
    rw [e0] at hq
    dsimp only at hq
    unfold isL at e0
    split at e0
    · rename_i ds0 o0 es0
      cases e0
      obtain ⟨v0, f0, g0, hv0, hr0, _⟩ := r.take es0
      refine ⟨v0, hv0, ?_, ?_⟩
      · have : ∃ a vs, v0 = .ref a ∧ H a = some (.lst vs) := by
          cases o0 with
          | fz =>
            have fd := (R.fz_iff.mp hr0).2
            cases fd with
            | lst h1 _ _ => exact ⟨_, _, rfl, h1⟩
          | un c =>
            unfold R at hr0
            obtain ⟨a, _, rfl, _, ⟨vs, _, _, ha, _⟩ | ⟨_, _, q, _⟩⟩ := hr0
            · exact ⟨a, vs, rfl, ha⟩
            · cases q
          | tu c => unfold R at hr0; obtain ⟨_, _, _, _, _, q, _⟩ := hr0; cases q
          | rc _ => unfold R at hr0; exact hr0.elim
          | nl => unfold R at hr0; exact hr0.elim
          | cn _ _ => unfold R at hr0; exact hr0.elim
        obtain ⟨a, vs, rfl, ha⟩ := this
        exact .inl ⟨rfl, vs, .inl (.inl ha)⟩
      · show WE X e τ H _
        refine h τ H Z fp σ _ r k ((PostS.expr (F := fun v σ => match slot σ i, lstOf v with
            | some (.lst ds, .un .fz), some xs => if ds.length + xs.length ≤ big then .ok .next (σ.set i (some (.lst (ds ++ xs), .un .fz))) else .bad
            | _, _ => .bad) hq).mono fun v σ1 q => ?_)
        intro w H1 Z1 f g s1 k1 ra rs
        split at q
        · rename_i ds xs es1 el
          split at q
          · rename_i hlen
            have fl : FL X.K X.mg H1 Z1 w (.lst xs) ∧ v.1 = .lst xs := by
              obtain ⟨d, o⟩ := v
              unfold lstOf at el
              split at el
              · rename_i z; cases z; cases el; exact ⟨ra.fl rfl, rfl⟩
              · rename_i z; cases z; cases el; exact ⟨ra.fl rfl, rfl⟩
              · cases el
            obtain ⟨b, zs, rfl, hb, fz⟩ := fl.1.lstH
            obtain ⟨a, vs, fa, g1, hv1, ha, a3, rs1, pm⟩ := own_lst rs es1
            rw [hv0] at hv1
            cases hv1
            have hlv := a3.length
            have hlz := fz.length
            have := big_le
            have k1' : Ok H1 Z1 (f ++ ((a :: fa) ++ g1)) := k1.perm (List.Perm.append_left f pm.symm)
            refine ⟨a, b, vs, zs, rfl, rfl, ha, hb, by omega, ?_⟩
            have a32 : All3 (R X.K X.mg H1 Z1 .fz) (vs ++ zs) (ds ++ xs) [] := fds_all3 ((all3_fz a3).append fz)
            obtain ⟨g3, s3, k3, rs3⟩ := wr_lst (rest := f) (slot_lt es1) hv0 rs1 k1' a32 (fun z => by simp)
            refine q τ _ Z1 g3 (KpI.refl _ _) ?_ k3 rs3
            exact (s1.sb ((Sb.refl f).app (Sb.perm pm.symm))).trans s3
          · exact q.elim
        · exact q.elim
    · cases e0
def noSlice : Expr → Bool
  | .Slice _ _ _ _ => false
  | _ => true
theorem subAsg {o ke : Expr} {spos : Pos} {env : Env} (h : noSlice ke = true) : ∀ v, assign (.Subscript o ke spos) env v = (do
      let ov ← holding [v] (eval o env)
      let iv ← holding [v, ov] (eval ke env)
      standAt spos
      holding [v, ov, iv] (setItem ov iv v)
      release [v, ov, iv] []) := by
  intro v
  cases ke <;> first | rfl | cases h
theorem vs_sub {me mk : M Val} {i : Nat} {x : Str} {p spos : Pos} {ke : Expr} (hv : PE X (.Name x p) (tVar i)) (h : VE X W e me) (hk : VE X W ke mk) (hpl : noSlice ke = true) (hs : swapsWithSole [.Subscript (.Name x p) ke spos] e pos.line X.env = pure false) (hw : swappedStores [.Subscript (.Name x p) ke spos] e X.env = pure none) :
    VS X W IO (.Assign [.Subscript (.Name x p) ke spos] e pos) (me.bind fun v => (isL i).bind fun _ => mk.bind fun kv σ => match slot σ i, kv with
    | some (.lst ds, .un c), (.int j, _) => match ixN ds.length j, itemV c v with
      | some m, some x => .ok .next (σ.set i (some (.lst (ds.set m x), .un c)))
      | _, _ => .bad
    | _, _ => .bad) := by
  intro τ H Z fp σ Dn r k hq
  refine WS.of (ps_asg (peW X e) (pg_sub hv (peW X ke) set_list (subAsg hpl)) hs hw (by rfl)) ?_
  refine h τ H Z fp σ _ r k (hq.expr.mono fun v σ1 q => ?_)
  intro w H1 Z1 f g s1 k1 ra rs
  unfold M.bind at q
  cases e0 : isL i σ1 with
  | bad => rw [e0] at q; exact q.elim
  | exn c s => unfold isL at e0; split at e0 <;> cases e0
  | ok u σ0 =>
    rw [e0] at q
    dsimp only at q
    unfold isL at e0
    split at e0
    · rename_i ds0 o0 es0
      cases e0
      obtain ⟨v0, f0, g0, hv0, hr0, _⟩ := rs.take es0
      refine ⟨v0, hv0, ?_⟩
      show WE X ke τ H1 _
      have q1 := PostS.expr (F := fun (kv : Val) (σ : Fr) => match slot σ i, kv with
          | some (.lst ds, .un c), (.int j, _) => match ixN ds.length j, itemV c v with
            | some m, some x => .ok .next (σ.set i (some (.lst (ds.set m x), .un c)))
            | _, _ => .bad
          | _, _ => .bad) q
      refine hk τ H1 Z1 g σ1 _ rs k1.right (Post.step q1 s1 k1 fun kv σ2 q2 => ?_)
      intro w2 H2 Z2 f2 g2 s2 k2 ra2 rs2
      split at q2
      · rename_i ds c j oj es1
        cases ex : ixN ds.length j with
        | none => rw [ex] at q2; exact q2.elim
        | some m =>
          cases ei : itemV c v with
          | none => rw [ex, ei] at q2; exact q2.elim
          | some y =>
            rw [ex, ei] at q2
            dsimp only at q2
            obtain ⟨a, vs, fa, g3, hv3, ha, a3, rs3, pm⟩ := own_lst rs2 es1
            rw [hv0] at hv3
            cases hv3
            have ra' : R X.K X.mg H2 Z2 v.2 w v.1 f := R.stay (s2.stays k1.right) _ (s2.keep k1) ra
            have kA : Ok H2 Z2 (f ++ (f2 ++ g2)) := k1.with s2 k2
            have sbA : Sb (f ++ ((a :: fa) ++ g3)) (f ++ (f2 ++ g2)) := fun z => by
              have := pm.count_eq z
              simp only [List.count_append, List.cons_append, List.count_cons] at this ⊢
              omega
            have kB : Ok H2 Z2 (f ++ ((a :: fa) ++ g3)) := kA.sb sbA
            obtain ⟨Z4, f4, r4, s4, k4, sy4⟩ := itemV_ok ra' kB ei
            have ej : w2 = V.int j := R.int ra2
            subst ej
            refine ⟨a, vs, j, m, rfl, rfl, ha, by rw [a3.length, ← ixN_eq]; exact ex, ?_⟩
            obtain ⟨fa', a5, sb5⟩ := All3.set m (a3.imp fun v d f p q => p.stay sy4 _ fun _ _ _ hu => hu) r4
            obtain ⟨g6, s6, k6, rs6⟩ := wr_lst (rest := f4) (slot_lt es1) hv0 (rs3.stay sy4 fun _ _ _ hu => hu) k4 a5 sb5
            refine q2 τ _ Z4 g6 (KpI.refl _ _) ?_ k6 rs6
            exact (((s1.trans (s2.under k1)).sb sbA).trans s4).trans s6
      · exact q2.elim
    · cases e0
/-! ### plain statements -/
/-- e as a statement drops no comprehension -/
def noComp : Expr → Bool
  | .ListComp _ _ _ _ => false
  | .SetComp _ _ _ _ => false
  | .DictComp _ _ _ _ _ => false
  | _ => true
theorem noComp_eq {t : Option Expr} {l : Nat} {env : Env} (h : noComp e = true) : swapsWith e t l env = pure false := by
  cases e <;> first | rfl | cases h
theorem vs_ex {m : M Val} (h : VE X W e m) (hn : noComp e = true) : VS X W IO (.Expr e pos) (m.bind fun _ => M.pure .next) := by
  intro τ H Z fp σ Dn r k hq
  refine WS.of (ps_expr (peW X e) (noComp_eq hn)) (h τ H Z fp σ _ r k (hq.expr.mono fun v σ1 q => ?_))
  intro w H1 Z1 f g s1 k1 ra rs
  exact q τ H1 Z1 g (KpI.refl _ _) (s1.less fun x h => List.mem_append_right _ h) k1.right rs
theorem vs_ret {m : M Val} (h : VE X W e m) : VS X W IO (.Return (some e) pos) (m.bind fun v => M.pure (.ret v)) := by
  intro τ H Z fp σ Dn r k hq
  refine WS.of (ps_ret (peW X e)) (h τ H Z fp σ _ r k (hq.expr.mono fun v σ1 q => ?_))
  intro w H1 Z1 f g s1 k1 ra rs
  exact q w τ H1 Z1 f g (KpI.refl _ _) s1 k1 ra rs
theorem vs_retN : VS X W IO (.Return none pos) (M.pure (.ret (.non, .fz))) := fun τ H Z fp σ Dn r k hq =>
  WS.of ps_retN (hq .non τ H Z [] fp (KpI.refl _ _) Stp.same k (R.of_fd .non) r)
theorem vs_pass : VS X W IO (.Pass pos) (M.pure .next) := fun τ H Z fp σ Dn r k hq => WS.of ps_pass (hq τ H Z fp (KpI.refl _ _) Stp.same k r)
theorem vs_brk : VS X W IO (.Break pos) (M.pure .brk) := fun τ H Z fp σ Dn r k hq => WS.of ps_break (hq τ H Z fp (KpI.refl _ _) Stp.same k r)
theorem vs_cnt : VS X W IO (.Continue pos) (M.pure .cnt) := fun τ H Z fp σ Dn r k hq => WS.of ps_continue (hq τ H Z fp (KpI.refl _ _) Stp.same k r)
theorem vb_nil : VB X W IO [] (M.pure .next) := fun τ H Z fp σ Dn r k hq => WB.of pss_nil (hq τ H Z fp (KpI.refl _ _) Stp.same k r)
theorem vb_cons {st : Stmt} {rest : List Stmt} {m : M Flow} {ms : M Flow} (h : VS X W IO st m) (hs : VB X W IO rest ms) : VB X W IO (st :: rest) (m.bind fun f => match f with
    | .next => ms
    | f => M.pure f) := by
  intro τ H Z fp σ Dn r k hq
  refine WB.of (pss_cons (psW X st) (pssW X rest)) ?_
  refine h τ H Z fp σ _ r k ?_
  unfold M.bind at hq
  cases e : m σ with
  | bad => rw [e] at hq; exact hq
  | exn c σ' => rw [e] at hq; exact hq
  | ok f σ' =>
    rw [e] at hq
    dsimp only at hq
    cases f with
    | next => exact fun τ1 H1 Z1 g kp s1 k1 rs => hs τ1 H1 Z1 g σ' Dn rs k1 (PostS.step0 hq kp s1)
    | brk => exact hq
    | cnt => exact hq
    | ret v => exact hq
theorem vs_if {c : Expr} {a b : List Stmt} {mt : M Bool} {ma mb : M Flow} (ht : VT X W c mt) (ha : VB X W IO a ma) (hb : VB X W IO b mb) : VS X W IO (.If c a b pos) (mt.bind fun x => if x then ma else mb) := by
  intro τ H Z fp σ Dn r k hq
  refine WS.of (ps_if (ptW X c) (pssW X a) (pssW X b)) (ht τ H Z fp σ _ r k (hq.expr.mono fun x σ1 q => ?_))
  intro H1 Z1 g s1 k1 rs
  cases x with
  | true =>
    rw [if_pos rfl] at q ⊢
    exact ha τ H1 Z1 g σ1 Dn rs k1 (PostS.step0 q (KpI.refl _ _) s1)
  | false =>
    rw [if_neg Bool.false_ne_true] at q ⊢
    exact hb τ H1 Z1 g σ1 Dn rs k1 (PostS.step0 q (KpI.refl _ _) s1)
theorem vs_raise {x m : Str} {p p2 cp : Pos} {j : Nat} {C : Addr} {bmB : List Value} {B newId initId : String} (hc : X.calm = true) (tk : L2N.Takes X W) (F : ExcBaseFacts B newId initId bmB) (q : PySem.W.excIn X.K C bmB newId = true) (gC : X.mg x = some (.ref C)) (kC : PySem.W.keepIn X.K (.ref C) = true)
    (rs : Raises X (.ref C)) (hg : Gl X x) (hdb : (x == ("__debug__" : Str)) = false) : VS X W IO (.Raise (some (.Call (.Name x p) [.Constant (.str m) j p2] [] cp)) none pos) (fun σ => .exn x σ) := fun τ H Z fp σ Dn r k hq =>
  WS.of (L2N.ps_raise hc tk (L2N.pmk_own F q gC kC rs hg hdb)) (hq τ H Z fp (KpI.refl _ _) Stp.same k r C gC)
/-! ### loops -/
theorem vs_while {c : Expr} {body : List Stmt} {mt : M Bool} {mb : M Flow} {n : Nat} (po : PassesOwn (model X.prog X.w) X.A X.env X.xe) (ht : VT X W c mt) (hb : VB X W IO body mb) : VS X W IO (.While c body [] pos) (whileL mt mb n) := by
  intro τ H Z fp σ Dn r k hq
  refine WS.of (ps_while po (ptW X c) (pssW X body)) ?_
  refine ⟨fun m τ1 H1 => ∃ Z1 g σ1, KpI IO τ τ1 ∧ Stp H Z fp H1 Z1 g ∧ Ok H1 Z1 g ∧ RSl X.K X.mg H1 Z1 σ1 τ1 g ∧ PostS X W IO τ H Z fp Dn (whileL mt mb m σ1), ⟨n, Z, fp, σ, KpI.refl _ _, Stp.same, k, r, hq⟩, ?_⟩
  rintro m τ1 H1 ⟨Z1, g, σ1, kp, s1, k1, rs, hq1⟩
  cases m with
  | zero => exact hq1.elim
  | succ m =>
    unfold whileL at hq1
    cases et : mt σ1 with
    | bad => rw [et] at hq1; exact hq1.elim
    | exn cc σ2 =>
      refine ht τ1 H1 Z1 g σ1 _ rs k1 ?_
      rw [et] at hq1 ⊢
      exact fun H' Z' g' s' k' r' C mC => hq1 τ1 H' Z' g' kp (s1.trans s') k' r' C mC
    | ok x σ2 =>
      refine ht τ1 H1 Z1 g σ1 _ rs k1 ?_
      rw [et] at hq1 ⊢
      intro H2 Z2 g2 s2 k2 rs2
      cases x with
      | false =>
        rw [if_neg Bool.false_ne_true]
        exact hq1 τ1 H2 Z2 g2 kp (s1.trans s2) k2 rs2
      | true =>
        rw [if_pos rfl]
        dsimp only at hq1
        refine ⟨fun τ3 H3 => ∃ Z3 g3 σ3, KpI IO τ τ3 ∧ Stp H Z fp H3 Z3 g3 ∧ Ok H3 Z3 g3 ∧ RSl X.K X.mg H3 Z3 σ3 τ3 g3 ∧ PostS X W IO τ H Z fp Dn (whileL mt mb m σ3), fun τ3 H3 h3 => ⟨m, Nat.lt_succ_self m, h3⟩, ?_⟩
        refine hb τ1 H2 Z2 g2 σ2 _ rs2 k2 ?_
        cases eb : mb σ2 with
        | bad => rw [eb] at hq1; exact hq1.elim
        | exn cc σ3 =>
          rw [eb] at hq1
          exact fun τ' H' Z' g' kp' s' k' r' C mC => hq1 τ' H' Z' g' (kp.trans kp') ((s1.trans s2).trans s') k' r' C mC
        | ok fl σ3 =>
          rw [eb] at hq1
          cases fl with
          | next => exact fun τ' H' Z' g' kp' s' k' r' => ⟨Z', g', σ3, kp.trans kp', (s1.trans s2).trans s', k', r', hq1⟩
          | cnt => exact fun τ' H' Z' g' kp' s' k' r' => ⟨Z', g', σ3, kp.trans kp', (s1.trans s2).trans s', k', r', hq1⟩
          | brk => exact fun τ' H' Z' g' kp' s' k' r' => hq1 τ' H' Z' g' (kp.trans kp') ((s1.trans s2).trans s') k' r'
          | ret v => exact fun w τ' H' Z' f' g' kp' s' k' ra' r' => hq1 w τ' H' Z' f' g' (kp.trans kp') ((s1.trans s2).trans s') k' ra' r'
theorem vs_for {iter : Expr} {body : List Stmt} {mi : M (List D)} {mb : M Flow} {p : Pat} {weak : Bool} (po : PassesOwn (model X.prog X.w) X.A X.env X.xe) (hc : X.calm = true) (hi : VI X W tg iter weak mi) (hg : VG X tg p) (hb : VB X W IO body mb)
    (hp : ∀ i ∈ p.slots, i ∉ IO) (hw : weak = true → ∃ q r, p = .cn q r) (hs : noSet iter = true) : VS X W IO (.For tg iter body [] pos) (mi.bind fun ds => forL mb p ds) := by
  intro τ H Z fp σ Dn r k hq
  refine WS.of (ps_for po hc (piW X tg iter) (pgW X tg) (pssW X body) (noSet_eq hs X.env)) ?_
  refine hi τ H Z fp σ _ r k (hq.expr.mono fun ds σ1 q => ?_)
  intro J H1 Z1 g s1 k1 rs hlen wk
  obtain ⟨G, Y, walk, hGs, hYs⟩ := wk
  refine for_it walk (fun i τ2 H2 => ∃ Z2 g2 σ2, KpI IO τ τ2 ∧ Stp H1 Z1 g H2 Z2 g2 ∧ Ok H2 Z2 g2 ∧ RSl X.K X.mg H2 Z2 σ2 τ2 g2 ∧ PostS X W IO τ H Z fp Dn (forL mb p (ds.drop i) σ2)) ?_ ?_ ?_ ?_
  · exact ⟨Z1, g, σ1, KpI.refl _ _, Stp.same, k1, rs, q⟩
  · rintro i τ2 H2 hi2 ⟨Z2, g2, σ2, kp, s2, _⟩
    exact hGs H2 Z2 (s2.stays k1)
  · rintro i x τ2 H2 H3 hi2 ⟨Z2, g2, σ2, kp, s2, k2, rs2, hq2⟩ y
    obtain ⟨d, hd⟩ : ∃ d, ds[i]? = some d := ⟨ds[i], List.getElem?_eq_getElem hi2⟩
    obtain ⟨ex3, hit⟩ := hYs i H2 Z2 x H3 d (s2.stays k1) y hd
    have hdrop : ds.drop i = d :: ds.drop (i + 1) := by
      obtain ⟨hlt, hge⟩ := List.getElem?_eq_some_iff.mp hd
      rw [List.drop_eq_getElem_cons hlt, hge]
    rw [hdrop] at hq2
    unfold forL at hq2
    obtain ⟨s3, k3⟩ := ex3.step k2
    rw [List.nil_append] at s3 k3
    have rs3 := rs2.stay ex3.stays fun x h u hu => ex3.1 x u hu
    cases ea : asgP p (d, .fz) σ2 with
    | none => rw [ea] at hq2; exact hq2.elim
    | some σ3 =>
      rw [ea] at hq2
      dsimp only at hq2
      have item : R X.K X.mg H3 Z2 .fz x d [] ∨ (Own.fz = .fz ∧ ([] : List Addr) = [] ∧ (∃ q r, p = .cn q r) ∧ IT X.K X.mg H3 Z2 x d) := by
        cases weak with
        | true => exact .inr ⟨rfl, rfl, hw rfl, hit⟩
        | false => exact .inl (R.of_fd hit)
      refine hg d .fz x [] τ2 H3 Z2 g2 σ2 σ3 _ item rs3 k3 ea fun τ4 g4 kp4 sb4 rs4 => ?_
      rw [List.nil_append] at sb4
      have kp' : KpI IO τ τ4 := kp.trans (kp4.kpI hp)
      have s4 : Stp H1 Z1 g H3 Z2 g4 := (s2.trans s3).sb sb4
      refine hb τ4 H3 Z2 g4 σ3 _ rs4 (k3.sb sb4) ?_
      cases eb : mb σ3 with
      | bad => rw [eb] at hq2; exact hq2.elim
      | exn cc σ5 =>
        rw [eb] at hq2
        exact fun τ' H' Z' g' kq s' k' r' C mC => hq2 τ' H' Z' g' (kp'.trans kq) ((s1.trans s4).trans s') k' r' C mC
      | ok fl σ5 =>
        rw [eb] at hq2
        cases fl with
        | next => exact fun τ' H' Z' g' kq s' k' r' => ⟨Z', g', σ5, kp'.trans kq, s4.trans s', k', r', hq2⟩
        | cnt => exact fun τ' H' Z' g' kq s' k' r' => ⟨Z', g', σ5, kp'.trans kq, s4.trans s', k', r', hq2⟩
        | brk => exact fun τ' H' Z' g' kq s' k' r' => hq2 τ' H' Z' g' (kp'.trans kq) ((s1.trans s4).trans s') k' r'
        | ret v => exact fun w τ' H' Z' f' g' kq s' k' ra' r' => hq2 w τ' H' Z' f' g' (kp'.trans kq) ((s1.trans s4).trans s') k' ra' r'
  · rintro τ2 H2 ⟨Z2, g2, σ2, kp, s2, k2, rs2, hq2⟩
    rw [List.drop_eq_nil_of_le (Nat.le_refl _)] at hq2
    exact hq2 τ2 H2 Z2 g2 kp (s1.trans s2) k2 rs2
end
end Py

set_option Elab.async false
set_option linter.all false
set_option maxRecDepth 100000
set_option maxHeartbeats 4000000
/-! PyJ: which text does which primitive. -/
namespace Py
open PySem PySem.Spec PyProof.Rows L2
/-- what is known of the module: built-ins that no global hides, defs, exceptions' classes, constants -/
structure Sig where
  blts : List Str
  fns : List Str
  excs : List Str
/-- a built-in's name, in a scope -/
def isB (S : Sig) (sc : Scope) (x : Str) : Bool := decide (x ∈ S.blts) && decide (sc.names.lookup x = some .globalImplicit)
def binA (op : Operator) : Expr → Option (List Expr)
  | .BinOp a o b _ => if o = op then some [a, b] else none
  | _ => none
def unA (op : UnaryOp) : Expr → Option (List Expr)
  | .UnaryOp o a _ => if o = op then some [a] else none
  | _ => none
def cmpA (op : CmpOp) : Expr → Option (List Expr)
  | .Compare a [o] [b] _ => if o = op && !behindInMarks op b then some [a, b] else none
  | _ => none
def cmpN (op : CmpOp) : Expr → Option (List Expr)
  | .Compare a [o] [.Constant .none _ _] _ => if o = op then some [a] else none
  | _ => none
def ixA : Expr → Option (List Expr)
  | .Subscript a b _ => if noSlice b then some [a, b] else none
  | _ => none
def slLoA : Expr → Option (List Expr)
  | .Subscript a (.Slice (some l) none none _) _ => some [a, l]
  | _ => none
def slHiA : Expr → Option (List Expr)
  | .Subscript a (.Slice none (some u) none _) _ => some [a, u]
  | _ => none
def sl2A : Expr → Option (List Expr)
  | .Subscript a (.Slice (some l) (some u) none _) _ => some [a, l, u]
  | _ => none
def calA (S : Sig) (sc : Scope) (x : Str) : Expr → Option (List Expr)
  | .Call (.Name y _) (e :: es) [] _ => if decide (y = x) && isB S sc x && (e :: es).all noStar then some (e :: es) else none
  | _ => none
def isA (S : Sig) (sc : Scope) (c : Str) : Expr → Option (List Expr)
  | .Call (.Name y _) [e, .Name d _] [] _ => if decide (y = "isinstance") && decide (d = c) && isB S sc "isinstance" && isB S sc c && noStar e then some [e] else none
  | _ => none
def prArgs (S : Sig) (sc : Scope) (p : Prim) (e : Expr) : Option (List Expr) := match p with
  | .add => binA .Add e
  | .sub => binA .Sub e
  | .mul => binA .Mult e
  | .mod => binA .Mod e
  | .fdiv => binA .FloorDiv e
  | .pow => binA .Pow e
  | .neg => unA .USub e
  | .lt => cmpA .Lt e
  | .le => cmpA .LtE e
  | .gt => cmpA .Gt e
  | .ge => cmpA .GtE e
  | .eq => cmpA .Eq e
  | .ne => cmpA .NotEq e
  | .in_ => cmpA .In e
  | .notIn => cmpA .NotIn e
  | .isNone => cmpN .Is e
  | .notNone => cmpN .IsNot e
  | .idx => ixA e
  | .slLo => slLoA e
  | .slHi => slHiA e
  | .sl2 => sl2A e
  | .len => calA S sc "len" e
  | .tuple => calA S sc "tuple" e
  | .list => calA S sc "list" e
  | .sum => calA S sc "sum" e
  | .all_ => calA S sc "all" e
  | .any_ => calA S sc "any" e
  | .max2 => calA S sc "max" e
  | .min2 => calA S sc "min" e
  | .max1 => calA S sc "max" e
  | .min1 => calA S sc "min" e
  | .abs => calA S sc "abs" e
  | .int_ => calA S sc "int" e
  | .isInt => isA S sc "int" e
  | .isBool => isA S sc "bool" e
  | .isTuple => isA S sc "tuple" e
  | .isStr => isA S sc "str" e
  | .isList => isA S sc "list" e
  | _ => none
section
variable {X : Cx} {e : Expr} {es : List Expr} {p : Prim} {S : Sig} {sc : Scope}
theorem bin_ok {op : Operator} {r : R2} (h : binA op e = some es) (ho : OpR X (binaryOp op) r) (ok : PrimOk X p (two r)) : PrimR X e es p := by
  unfold binA at h
  split at h
  · rename_i a o b pos
    split at h
    · rename_i eo
      subst eo
      cases h
      exact PrimR.mk' (rp := two r) (pe_op ho (peW X a) (peW X b)) ok rfl
    · cases h
  · cases h
theorem un_ok {op : UnaryOp} {r : V → Hp → VK → Prop} (h : unA op e = some es) (ho : UnR X (unaryOp op) r) (ok : PrimOk X p (one r)) (hn : op ≠ .Not) : PrimR X e es p := by
  unfold unA at h
  split at h
  · rename_i o a pos
    split at h
    · rename_i eo
      subst eo
      cases h
      exact PrimR.mk' (rp := one r) (pe_un ho (peW X a)) ok (by cases o <;> first | rfl | exact absurd rfl hn)
    · cases h
  · cases h
theorem cmp_ok {op : CmpOp} {r : R2} (h : cmpA op e = some es) (ho : OpR X (compareOp op) r) (ok : PrimOk X p (two r)) : PrimR X e es p := by
  unfold cmpA at h
  split at h
  · rename_i a o b pos
    split at h
    · rename_i hc
      simp only [Bool.and_eq_true, decide_eq_true_eq, Bool.not_eq_true'] at hc
      obtain ⟨rfl, hm⟩ := hc
      cases h
      exact ⟨two r, pe_cmpR ho (peW X a) (peW X b) hm, pt_cmpR ho (peW X a) (peW X b) hm, ok⟩
    · cases h
  · cases h
theorem cmpN_ok {op : CmpOp} {g : Bool → Bool} (h : cmpN op e = some es) (ho : OpR X (compareOp op) (fun x y H Q => y = .non ∧ Q (.bl (g (decide (x = .non)))) H)) (ok : PrimOk X p (one fun x H Q => Q (.bl (g (decide (x = .non)))) H)) : PrimR X e es p := by
  unfold cmpN at h
  split at h
  · rename_i a o j p1 pos
    split at h
    · rename_i eo
      subst eo
      cases h
      have w : ∀ {τ : L2.St} {H : Hp} {Q : VK}, (WEs X [a] τ H fun vs H' => (one fun x H Q => Q (.bl (g (decide (x = .non)))) H) vs H' Q) → tOp (fun x y H Q => y = .non ∧ Q (.bl (g (decide (x = .non)))) H) (WE X a) (tC .non) τ H Q :=
        fun {τ H Q} h => WE.mono h fun v H' q => ⟨rfl, q⟩
      exact ⟨one fun x H Q => Q (.bl (g (decide (x = .non)))) H, ⟨fun pins s σ H Q I h => (pe_cmpR ho (peW X a) pe_non rfl).run pins s σ H Q I (w h)⟩,
        ⟨fun pins s σ H Q I h => (pt_cmpR ho (peW X a) pe_non rfl).run pins s σ H Q I (w h)⟩, ok⟩
    · cases h
  · cases h
theorem noSlice_ix {b : Expr} (h : noSlice b = true) : PlainIx b := by
  intro o i
  cases b <;> first | rfl | cases h
theorem ix_ok {r : R2} (h : ixA e = some es) (ho : IxR X r) (ok : PrimOk X p (two r)) : PrimR X e es p := by
  unfold ixA at h
  split at h
  · rename_i a b pos
    split at h
    · rename_i hs
      cases h
      exact PrimR.mk' (rp := two r) (pe_ix ho (peW X a) (peW X b) (noSlice_ix hs)) ok rfl
    · cases h
  · cases h
theorem slLo_ok (h : slLoA e = some es) : PrimR X e es .slLo := by
  unfold slLoA at h
  split at h
  · cases h
    exact PrimR.mk' (pe_slice sl_all (peW X _) (po_some (peW X _)) po_none) ok_slLo rfl
  · cases h
theorem slHi_ok (h : slHiA e = some es) : PrimR X e es .slHi := by
  unfold slHiA at h
  split at h
  · cases h
    exact PrimR.mk' (pe_slice sl_all (peW X _) po_none (po_some (peW X _))) ok_slHi rfl
  · cases h
theorem sl2_ok (h : sl2A e = some es) : PrimR X e es .sl2 := by
  unfold sl2A at h
  split at h
  · rename_i a l u p1 p2
    cases h
    refine PrimR.mk' (rp := three fun x y z H Q => ∃ i, y = .int i ∧ ∃ j, z = .int j ∧ rSlAll X.K x (some i) (some j) H Q) ⟨fun pins s σ H Q I h => ?_⟩ ok_sl2 rfl
    refine Subscript_ (thn (h pins s I) fun v s1 ⟨x, H1, I1, r1, q1⟩ => ?_)
    refine wpAny_Slice ?_
    rw [evalPart_some, evalPart_some]
    refine thn (q1 pins s1 I1) fun vl s2 ⟨y, H2, I2, ry, q2⟩ => thn (q2 pins s2 I2) fun vu s3 ⟨z, H3, I3, rz, q3⟩ => ?_
    obtain ⟨il, rfl, iu, rfl, q4⟩ := q3
    obtain ⟨tl, rfl⟩ := ry
    obtain ⟨tu, rfl⟩ := rz
    rw [evalPart_none]
    refine wpAny_pure ?_
    have I4 : Inv X pins σ H3 { s3 with heap := s3.heap.push { cls := .type "slice", data := .fields #[.int il tl, .int iu tu, .none] } } := I3.kept (t' := s3.toks) fun b ob q => Heap.get?_push_of_some _ q
    obtain ⟨T, id, hT, ht, hg⟩ := sl_all pins { s3 with heap := s3.heap.push { cls := .type "slice", data := .fields #[.int il tl, .int iu tu, .none] } } σ H3 x v (.int il tl) (.int iu tu) (some il) (some iu) s3.heap.objs.size Q I4 r1 (Heap.IsSliceOf.new ..) (.int il tl) (.int iu tu) q4
    show wpAny (model X.prog X.w) X.A (subscriptTail a (.Slice (some l) (some u) none p1) v (.ref s3.heap.objs.size)) (EP X pins σ Q) X.xe _
    exact tail_any (ops := [.ref s3.heap.objs.size, v]) ht hT hg (by with_unfolding_all rfl)
  · cases h
theorem isB_gl (h : isB S sc x = true) (hs : X.env.scope = sc) (hb : ∀ y ∈ S.blts, X.mg y = none) : Gl X x ∧ X.mg x = none := by
  unfold isB at h
  simp only [Bool.and_eq_true, decide_eq_true_eq] at h
  refine ⟨?_, hb x h.1⟩
  show X.env.scope.names.lookup x = _
  rw [hs]
  exact h.2
theorem cal_inv {x : Str} (h : calA S sc x e = some es) (hs : X.env.scope = sc) (hb : ∀ y ∈ S.blts, X.mg y = none) :
    ∃ q a as pos, e = .Call (.Name x q) (a :: as) [] pos ∧ es = a :: as ∧ Gl X x ∧ X.mg x = none ∧ (a :: as).all noStar = true := by
  unfold calA at h
  split at h
  · rename_i y q a as pos
    split at h
    · rename_i hc
      simp only [Bool.and_eq_true, decide_eq_true_eq] at hc
      obtain ⟨⟨rfl, h2⟩, h3⟩ := hc
      cases h
      obtain ⟨g1, g2⟩ := isB_gl h2 hs hb
      exact ⟨q, a, as, pos, rfl, rfl, g1, g2, h3⟩
    · cases h
  · cases h
theorem star1 {a : Expr} {as : List Expr} {env : Env} {pos : Pos} (h : (a :: as).all noStar = true) : starEach (a :: as) env = (false, eval a env) :: starEach as env ∧ (backTo pos (starEach as env)).any (·.1) = false := by
  simp only [List.all_cons, Bool.and_eq_true] at h
  exact ⟨star_cons h.1, (few_of as h.2).2⟩
theorem calB_ok {x : Str} {id : String} {r : RP} (h : calA S sc x e = some es) (hs : X.env.scope = sc) (hb : ∀ y ∈ S.blts, X.mg y = none) (hv : bootBuiltins x = some (.builtin id)) (hc : CallR X (.builtin id) r) (ok : PrimOk X p r)
    (hn : x ≠ "__name__") (hdb : (x == ("__debug__" : Str)) = false) : PrimR X e es p := by
  obtain ⟨q, a, as, pos, rfl, rfl, g1, g2, h3⟩ := cal_inv (X := X) h hs hb
  exact PrimR.mk' (rp := r) (pe_callB hc g1 g2 hv (paW X _ h3) hn hdb (star1 (pos := pos) h3).1 (star1 h3).2) ok rfl
theorem calT_ok {x : Str} {T : String} {r : RP} (h : calA S sc x e = some es) (hs : X.env.scope = sc) (hb : ∀ y ∈ S.blts, X.mg y = none) (hv : bootBuiltins x = some (.type T)) (hc : CallR X (.type T) r) (ok : PrimOk X p r)
    (hn : x ≠ "__name__") (hdb : (x == ("__debug__" : Str)) = false) : PrimR X e es p := by
  obtain ⟨q, a, as, pos, rfl, rfl, g1, g2, h3⟩ := cal_inv (X := X) h hs hb
  exact PrimR.mk' (rp := r) (pe_callTy hc g1 g2 hv (paW X _ h3) hn hdb (star1 (pos := pos) h3).1 (star1 h3).2) ok rfl
theorem is_ok {c : Str} {T : String} (h : isA S sc c e = some es) (hs : X.env.scope = sc) (hb : ∀ y ∈ S.blts, X.mg y = none) (hv : bootBuiltins c = some (.type T)) (ok : PrimOk X p (rIs X.K T)) (hn : c ≠ "__name__") (hdb : (c == ("__debug__" : Str)) = false) : PrimR X e es p := by
  unfold isA at h
  split at h
  · rename_i y q a d q2 pos
    split at h
    · rename_i hc
      simp only [Bool.and_eq_true, decide_eq_true_eq] at hc
      obtain ⟨⟨⟨⟨rfl, rfl⟩, h2⟩, h3⟩, h4⟩ := hc
      cases h
      obtain ⟨g1, g2⟩ := isB_gl h2 hs hb
      obtain ⟨g3, g4⟩ := isB_gl h3 hs hb
      have hst : [a, Expr.Name d q2].all noStar = true := by
        simp only [List.all_cons, Bool.and_eq_true, h4, List.all_nil, and_self, and_true, true_and] <;> rfl
      have pa : PA X [a, .Name d q2] (tCons (WE X a) (tCons (tC (.ty T)) tNil)) := pa_cons (peW X a) (pa_cons (pe_bltn g3 g4 hv rfl hn hdb) pa_nil) (star1 (pos := pos) hst).1
      exact PrimR.mk' (rp := rIs X.K T) (pe_callB call_isi g1 g2 boot_isinstance pa (by decide) (by decide) (star1 (pos := pos) hst).1 (star1 hst).2) ok rfl
    · cases h
  · cases h
theorem prim_ok (h : prArgs S sc p e = some es) (hs : X.env.scope = sc) (hb : ∀ y ∈ S.blts, X.mg y = none) (hc : X.calm = true) (hu : X.A.units + 64 < cLine) : PrimR X e es p := by
  cases p with
  | add => exact bin_ok h op_addAll ok_add
  | sub => exact bin_ok h op_sub ok_sub
  | mul => exact bin_ok h op_mulAll ok_mul
  | mod => exact bin_ok h op_mod ok_mod
  | fdiv => exact bin_ok h op_fdiv ok_fdiv
  | pow => exact bin_ok h op_pow ok_pow
  | neg => exact un_ok h un_neg ok_neg (by decide)
  | lt => exact cmp_ok h op_lt ok_lt
  | le => exact cmp_ok h op_le ok_le
  | gt => exact cmp_ok h op_gt ok_gt
  | ge => exact cmp_ok h op_ge ok_ge
  | eq => exact cmp_ok h (op_eqM hu) ok_eq
  | ne => exact cmp_ok h (op_neM hu) ok_ne
  | in_ => exact cmp_ok h op_in_seq ok_in
  | notIn => exact cmp_ok h op_notIn_seq ok_notIn
  | isNone => exact cmpN_ok (g := id) h op_isN ok_isNone
  | notNone => exact cmpN_ok (g := not) h op_notN ok_notNone
  | idx => exact ix_ok h (ix_list.or ix_tup) ok_idx
  | slLo => exact slLo_ok h
  | slHi => exact slHi_ok h
  | sl2 => exact sl2_ok h
  | rev => cases h
  | len => exact calB_ok h hs hb boot_len call_len ok_len (by decide) (by decide)
  | tuple => exact calT_ok h hs hb boot_tuple call_tupleF ok_tuple (by decide) (by decide)
  | list => exact calT_ok h hs hb boot_list call_list_of ok_list (by decide) (by decide)
  | sum => exact calB_ok h hs hb boot_sum (cr_sum hc) ok_sum (by decide) (by decide)
  | all_ => exact calB_ok h hs hb boot_all (cr_all hc) ok_all (by decide) (by decide)
  | any_ => exact calB_ok h hs hb boot_any (cr_any hc) ok_any (by decide) (by decide)
  | max2 => exact calB_ok h hs hb boot_max (call_max2 hc) ok_max2 (by decide) (by decide)
  | min2 => exact calB_ok h hs hb boot_min (call_min2 hc) ok_min2 (by decide) (by decide)
  | max1 => exact calB_ok h hs hb boot_max (cr_max hc) ok_max1 (by decide) (by decide)
  | min1 => exact calB_ok h hs hb boot_min (cr_min hc) ok_min1 (by decide) (by decide)
  | abs => exact calB_ok h hs hb boot_abs call_abs ok_abs (by decide) (by decide)
  | int_ => exact calT_ok h hs hb boot_int call_int1 ok_int (by decide) (by decide)
  | str_ => cases h
  | isInt => exact is_ok h hs hb boot_int ok_isInt (by decide) (by decide)
  | isBool => exact is_ok h hs hb boot_bool ok_isBool (by decide) (by decide)
  | isTuple => exact is_ok h hs hb boot_tuple ok_isTuple (by decide) (by decide)
  | isStr => exact is_ok h hs hb boot_str ok_isStr (by decide) (by decide)
  | isList => exact is_ok h hs hb boot_list ok_isList (by decide) (by decide)
  | dget2 => cases h
  | tindex => cases h
  | lcount => cases h
  | lindex => cases h
  | sortedSet => cases h
  | sorted => cases h
  | lenSet => cases h
  | join => cases h
  | split => cases h
  | replace => cases h
end
end Py

set_option Elab.async false
set_option linter.all false
set_option maxRecDepth 100000
set_option maxHeartbeats 4000000
/-! PyK: methods, dict displays. -/
namespace Py
open PySem PySem.Spec PyProof.Rows L2
section
variable {X : Cx} {W : WX} {e o : Expr} {es : List Expr} {p : Prim}
structure MthR (X : Cx) (e o : Expr) (es : List Expr) (p : Prim) : Prop where
  ex : ∃ (kd : V → Hp → Prop) (rp : RP), PE X e (fun τ H Q => WE X o τ H fun x H1 => kd x H1 ∧ WEs X es τ H1 fun xs H2 => rp (x :: xs) H2 Q) ∧ (∀ H Z x d, FL X.K X.mg H Z x d → d.kind = p.kind → kd x H) ∧ PrimOk X p rp
theorem ve_mth {mo : M AV} {ms : M (List AV)} (h : MthR X e o es p) (ho : VO X W o mo) (hs : VA X W es ms) : VE X W e (mthM p mo ms) := by
  intro τ H Z fp σ Q r k hp
  obtain ⟨kd, rp, hpe, hk, ok⟩ := h.ex
  refine WE.of hpe ?_
  refine ho τ H Z fp σ _ r k (Post.mono (Post.bind (m := mo) hp) fun a σ1 q => ?_)
  intro v H1 Z1 f g s1 k1 ra rs
  cases e1 : a.rd σ1 with
  | none => rw [e1] at q; exact q.elim
  | some d =>
    rw [e1] at q
    dsimp only at q
    split at q
    · rename_i hkd
      refine ⟨hk H1 Z1 v d (ra.fl rs e1) hkd, ?_⟩
      refine hs τ H1 Z1 g σ1 _ rs k1.right (Post.step (Post.bind (m := ms) q) s1 k1 fun as σ2 q2 => ?_)
      intro vs H2 Z2 f2 g2 s2 k2 ras rs2
      cases e2 : rds σ2 (a :: as) with
      | none => rw [e2] at q2; exact q2.elim
      | some ds =>
        rw [e2] at q2
        dsimp only [M.of] at q2
        cases e3 : p.run ds with
        | none => rw [e3] at q2; exact q2.elim
        | some x =>
          rw [e3] at q2
          obtain ⟨d', o'⟩ := x
          refine ok H2 Z2 (v :: vs) ds d' o' Q (RAs.fls rs2 (RAs.cons (ra.stay (s2.stays k1.right) (s2.keep k1)) ras) e2) e3 fun w H3 f3 ex ra3 => ?_
          obtain ⟨s3, k3⟩ := ex.step k2.right
          refine q2 w H3 Z2 f3 g2 ((s1.trans (s2.more fun x h => List.mem_append_right _ h)).trans (s3.more fun x h => List.mem_append_right _ h)) k3 ra3 (rs2.stay ex.stays fun x h u hu => ex.1 x u hu)
    · exact q.elim
/-! ### d.get(k, x) -/
theorem valV_fdk {K : PySem.W.Frag} {mg : Str → Option Value} {H : Hp} {Z : Addr → Prop} {k : Key} : ∀ {vs : List (Key × V)} {ds : List (Key × D)}, FDk K mg H Z vs ds → (valV vs k = none ∧ lookK k ds = none) ∨ ∃ v d, valV vs k = some v ∧ lookK k ds = some d ∧ FD K mg H Z v d
  | _, _, .nil => .inl ⟨rfl, rfl⟩
  | _, _, .cons (k := j) (v := v) (d := d) h r => by
    by_cases e : j = k
    · exact .inr ⟨v, d, valV_pos e, by unfold lookK; rw [if_pos e], h⟩
    · rw [valV_neg (p := (j, v)) e]
      rcases valV_fdk (k := k) r with ⟨a, b⟩ | ⟨w, x, a, b, c⟩
      · exact .inl ⟨a, by rw [lookK, if_neg e]; exact b⟩
      · exact .inr ⟨w, x, a, by rw [lookK, if_neg e]; exact b, c⟩
theorem FL.fd_of_flat {K : PySem.W.Frag} {mg : Str → Option Value} {H : Hp} {Z : Addr → Prop} {v : V} {d : D} (h : FL K mg H Z v d) (hd : d.still = true) : FD K mg H Z v d := by
  rcases h with h | ⟨_, _, _, _, rfl, _⟩ | ⟨_, _, _, _, rfl, _⟩
  · exact h
  · cases hd
  · cases hd
theorem key_kV {K : PySem.W.Frag} {mg : Str → Option Value} {H : Hp} {Z : Addr → Prop} {v : V} {d : D} {k : Key} (h : FL K mg H Z v d) (e : d.key? = some k) : v = kV k := by
  unfold D.key? at e
  split at e
  · cases e; exact h.int
  · cases e; exact h.str
  · cases e
def rGet2 : RP := three fun x y z H Q => ∃ a o, x = .ref a ∧ DGet H a y o ∧ Q (o.getD z) H
theorem ok_dget2 : PrimOk X .dget2 rGet2 := by
  intro H Z vs ds d o Q f e a
  change p_dget2 ds = _ at e
  unfold p_dget2 at e
  split at e
  · rename_i kvs dk dx
    obtain ⟨v, w, u, rfl, h1, h2, h3⟩ := f.three
    split at e
    case isFalse => cases e
    rename_i hst
    cases ek : dk.key? with
    | none => rw [ek] at e; cases e
    | some k =>
      rw [ek] at e
      obtain ⟨p, ws, rfl, hp, hf⟩ := h1.dct
      obtain rfl := key_kV h2 ek
      have e' : ((lookK k kvs).getD dx, Own.fz) = (d, o) := Option.some.inj e
      obtain ⟨e1, e2⟩ := Prod.mk.inj e'
      subst e2
      refine ⟨p, valV ws k, rfl, DGet.k hp, ?_⟩
      rcases valV_fdk (k := k) hf with ⟨q1, q2⟩ | ⟨y, c, q1, q2, q3⟩
      · rw [q1]
        rw [q2] at e1
        have e1 : dx = d := e1
        subst e1
        exact a.fz (h3.fd_of_flat hst)
      · rw [q1]
        rw [q2] at e1
        have e1 : c = d := e1
        subst e1
        exact a.fz q3
  · cases e
theorem get2_ok {k f : Expr} {apos cpos : Pos} (hu : X.A.units + 1 < cLine) (hn : [k, f].all noStar = true) (hb : attributeBase o "get" X.env (eval o X.env) = eval o X.env) (hl : oneLine apos cpos = true) :
    MthR X (.Call (.Attribute o "get" apos) [k, f] [] cpos) o [k, f] .dget2 := by
  simp only [List.all_cons, Bool.and_eq_true] at hn
  have m : M2 X o "get" apos k f cpos := by
    refine ⟨hb, ?_, hl, ?_⟩
    · rw [star_cons hn.1, star_cons hn.2.1]; rfl
    · rw [star_cons hn.1, star_cons hn.2.1]; rfl
  refine ⟨fun x H => ∃ a, x = .ref a ∧ IsD H a, rGet2, ⟨fun pins s σ H Q I h => (pe_dget2 hu (peW X o) (peW X k) (peW X f) m).run pins s σ H Q I ?_⟩, ?_, ok_dget2⟩
  · refine WE.mono h fun x H1 ⟨⟨a, ea, hd⟩, q⟩ => ⟨a, ea, hd, ?_⟩
    refine WE.mono q fun y H2 q2 => ?_
    refine WE.mono q2 fun z H3 q3 => ?_
    obtain ⟨a', o', e', g, q'⟩ := q3
    rw [ea] at e'
    cases e'
    exact ⟨o', g, q'⟩
  · intro H Z x d h hk
    cases d with
    | dct kvs =>
      obtain ⟨a, vs, rfl, h1, _⟩ := h.dct
      exact ⟨a, rfl, .inl ⟨vs, .inl h1⟩⟩
    | _ => cases hk
/-! ### t.index(x) -/
def rTIx (K : PySem.W.Frag) : RP := two fun x y H Q => rTIndex K x [y] H Q
theorem findEq_spec (x : D) : ∀ (ds : List D) (n j : Nat), findEq x ds n = some j → ∃ m d, j = n + m ∧ ds[m]? = some d ∧ d.eqv x = true ∧ ∀ m' d', m' < m → ds[m']? = some d' → d'.eqv x = false
  | [], n, j, h => by unfold findEq at h; cases h
  | d :: r, n, j, h => by
    unfold findEq at h
    split at h
    · rename_i hc
      cases h
      exact ⟨0, d, rfl, rfl, hc, fun m' d' hm => absurd hm (Nat.not_lt_zero _)⟩
    · rename_i hc
      obtain ⟨m, d1, e1, e2, e3, e4⟩ := findEq_spec x r (n + 1) j h
      refine ⟨m + 1, d1, by omega, e2, e3, fun m' d' hm hd => ?_⟩
      cases m' with
      | zero => cases hd; exact Bool.eq_false_iff.mpr hc
      | succ m' => exact e4 m' d' (by omega) hd
theorem FDs.nth' {K : PySem.W.Frag} {mg : Str → Option Value} {H : Hp} {Z : Addr → Prop} : ∀ {vs : List V} {ds : List D} {i : Nat} {v : V}, FDs K mg H Z vs ds → vs[i]? = some v → ∃ d, ds[i]? = some d ∧ FD K mg H Z v d
  | _, _, i, d, .nil, e => by simp at e
  | _, _, 0, d, .cons h _, e => by cases e; exact ⟨_, rfl, h⟩
  | _, _, i + 1, d, .cons (vs := vs) (ds := ds) _ r, e => by
    obtain ⟨d', h1, h2⟩ := FDs.nth' (vs := vs) (ds := ds) (i := i) r (by simpa using e)
    exact ⟨d', by simpa using h1, h2⟩
theorem flat_nth : ∀ {ds : List D} {i : Nat} {d : D}, ds.all D.flat = true → ds[i]? = some d → d.flat = true := fun h e => List.all_eq_true.mp h _ (List.mem_of_getElem? e)
theorem ok_tindex : PrimOk X .tindex (rTIx X.K) := by
  intro H Z vs ds d o Q f e a
  change p_tindex ds = _ at e
  unfold p_tindex at e
  split at e
  · rename_i ts x
    split at e
    · rename_i hf
      have hf' := Bool.and_eq_true_iff.mp hf
      cases ef : findEq x ts 0 with
      | none => rw [ef] at e; cases e
      | some n =>
        rw [ef] at e
        cases e
        obtain ⟨v, w, rfl, h1, h2⟩ := f.two
        obtain ⟨p1, xs, o1, rfl, q1, t1, f1, d1⟩ := h1.tup
        obtain ⟨fd, fv⟩ := fd_flat h2 hf'.1
        obtain ⟨m, dm, e1, e2, e3, e4⟩ := findEq_spec x ts 0 n ef
        obtain rfl : n = m := by omega
        obtain ⟨z, z1, z2⟩ := f1.get e2
        refine ⟨p1, xs, w, n, z, rfl, rfl, sqT_frz q1, fv, f1.flat hf'.2, z1, ?_, fun m' z' hm hz => ?_, a.fz (.int _)⟩
        · rw [eqV_of z2 fd (flat_nth hf'.2 e2) hf'.1]
          exact e3
        · obtain ⟨d', y1, y2⟩ := f1.nth' hz
          rw [eqV_of y2 fd (flat_nth hf'.2 y1) hf'.1]
          exact e4 m' d' hm y1
    · cases e
  · cases e
theorem tindex_ok {k : Expr} {apos cpos : Pos} (hn : noStar k = true) (hb : attributeBase o "index" X.env (eval o X.env) = eval o X.env) (hl : oneLine apos cpos = true) :
    MthR X (.Call (.Attribute o "index" apos) [k] [] cpos) o [k] .tindex := by
  have hs : [k].all noStar = true := by simp [hn]
  refine ⟨fun x H => ∃ p ob vs, x = .ref p ∧ H p = some (.frz ob (.tup vs)) ∧ TO ob, rTIx X.K, ⟨fun pins s σ H Q I h => (pe_bmT PySem.F.plainAttrs_tuple PySem.F.slot_tuple_index PySem.F.type_tuple_index mt_tup_indexF (peW X o) (paW X [k] hs) hb (few1 hn) hl (star1 (pos := cpos) hs).1 (star1 hs).2).run pins s σ H Q I ?_⟩, ?_, ok_tindex⟩
  · refine WE.mono h fun x H1 ⟨q0, q⟩ => ⟨q0, ?_⟩
    exact WE.mono q fun y H2 q2 => q2
  · intro H Z x d h hk
    cases d with
    | tup ds =>
      obtain ⟨a, vs, ob, rfl, h1, h2, _⟩ := h.tup
      exact ⟨a, ob, vs, rfl, h1, h2⟩
    | _ => cases hk
/-! ### a dict's display, its keys texts -/
def keysOk : List Str → List (Option Expr) → Bool
  | [], [] => true
  | k :: ks, some (.Constant (.str x) _ _) :: es => decide (k = x) && keysOk ks es
  | _, _ => false
def trsOf (X : Cx) : List Str → List Expr → List (TE × TE)
  | k :: ks, v :: vs => (tC (.str k), WE X v) :: trsOf X ks vs
  | _, _ => []
theorem pps_of {pos : Pos} : ∀ {ks : List Str} {keys : List (Option Expr)} {vals : List Expr}, keysOk ks keys = true → keys.length = vals.length → PPs X pos keys vals (trsOf X ks vals) ∧ keys.all (·.isSome) = true ∧ keys.length = ks.length
  | [], [], [], _, _ => ⟨pps_nil, rfl, rfl⟩
  | k :: ks, some (.Constant (.str x) _ _) :: es, v :: vs, h, hl => by
    unfold keysOk at h
    have h' := Bool.and_eq_true_iff.mp h
    have e : k = x := of_decide_eq_true h'.1
    subst e
    obtain ⟨a, b, c⟩ := pps_of (pos := pos) (vals := vs) h'.2 (Nat.succ.inj hl)
    refine ⟨pps_cons pe_str (peW X v) a, by rw [List.all_cons, b]; rfl, by rw [List.length_cons, List.length_cons, c]⟩
  | [], _ :: _, _, h, _ => by cases h
  | _ :: _, [], _, h, _ => by cases h
  | [], [], _ :: _, _, hl => by cases hl
  | _ :: _, _ :: _, [], _, hl => by cases hl
theorem pairs_of {τ : L2.St} : ∀ {ks : List Str} {vals : List Expr} {H : Hp} {G : List (V × V) → Hp → Prop}, ks.length = vals.length → (WEs X vals τ H fun ws H' => G ((ks.map V.str).zip ws) H') → tPairs (trsOf X ks vals) τ H G
  | [], [], H, G, _, h => h
  | k :: ks, v :: vs, H, G, hl, h => by
    refine WE.mono h fun x H1 q => ?_
    exact pairs_of (Nat.succ.inj hl) q
  | [], _ :: _, _, _, hl, _ => by cases hl
  | _ :: _, [], _, _, hl, _ => by cases hl
theorem lookK_any : ∀ {vs : List (Key × V)} {ds : List (Key × D)} {K : PySem.W.Frag} {mg : Str → Option Value} {H : Hp} {Z : Addr → Prop} {k : Key}, FDk K mg H Z vs ds → (vs.any fun kv => decide (kv.1 = k)) = (lookK k ds).isSome
  | _, _, _, _, _, _, _, .nil => rfl
  | _, _, _, _, _, _, k, .cons (k := j) (v := v) (d := d) h r => by
    rw [List.any_cons, lookK_any (k := k) r, lookK]
    by_cases e : j = k
    · rw [if_pos e]; simp [e]
    · rw [if_neg e]; simp [e]
theorem FDk.app {K : PySem.W.Frag} {mg : Str → Option Value} {H : Hp} {Z : Addr → Prop} {k : Key} {v : V} {d : D} (h : FD K mg H Z v d) : ∀ {vs : List (Key × V)} {ds : List (Key × D)}, FDk K mg H Z vs ds → FDk K mg H Z (vs ++ [(k, v)]) (ds ++ [(k, d)])
  | _, _, .nil => .cons h .nil
  | _, _, .cons g r => .cons g (FDk.app h r)
theorem FDk.rep {K : PySem.W.Frag} {mg : Str → Option Value} {H : Hp} {Z : Addr → Prop} {k : Key} {v : V} {d : D} (h : FD K mg H Z v d) : ∀ {vs : List (Key × V)} {ds : List (Key × D)}, FDk K mg H Z vs ds → FDk K mg H Z (vs.map fun kv => if kv.1 = k then (kv.1, v) else kv) (ds.map fun p => if p.1 = k then (p.1, d) else p)
  | _, _, .nil => .nil
  | _, _, .cons (k := j) g r => by
    rw [List.map_cons, List.map_cons]
    by_cases e : j = k
    · rw [if_pos e, if_pos e]; exact .cons h (FDk.rep h r)
    · rw [if_neg e, if_neg e]; exact .cons g (FDk.rep h r)
theorem FDk.put {K : PySem.W.Frag} {mg : Str → Option Value} {H : Hp} {Z : Addr → Prop} {k : Key} {v : V} {d : D} {vs : List (Key × V)} {ds : List (Key × D)} (g : FDk K mg H Z vs ds) (h : FD K mg H Z v d) :
    FDk K mg H Z (putK vs k v) (if (lookK k ds).isSome then ds.map (fun p => if p.1 = k then (p.1, d) else p) else ds ++ [(k, d)]) := by
  unfold putK
  rw [lookK_any (k := k) g]
  split
  · exact g.rep h
  · exact g.app h
theorem FDk.merge {K : PySem.W.Frag} {mg : Str → Option Value} {H : Hp} {Z : Addr → Prop} : ∀ {vs : List (Key × V)} {ds : List (Key × D)} {as : List (Key × V)} {bs : List (Key × D)}, FDk K mg H Z vs ds → FDk K mg H Z as bs → FDk K mg H Z (mergeK as vs) (mergeD bs ds)
  | _, _, as, bs, .nil, g => g
  | _, _, as, bs, .cons (k := k) (v := v) (vs := vs) h r, g => by
    unfold mergeD
    exact FDk.merge (as := putK as k v) (vs := vs) r (g.put h)
theorem FDs.keyed {K : PySem.W.Frag} {mg : Str → Option Value} {H : Hp} {Z : Addr → Prop} : ∀ {ks : List Str} {vs : List V} {ds : List D}, FDs K mg H Z vs ds → FDk K mg H Z ((ks.map Sum.inr).zip vs) ((ks.map Sum.inr).zip ds)
  | [], _, _, _ => by rw [List.map_nil, List.zip_nil_left, List.zip_nil_left]; exact .nil
  | k :: ks, _, _, .nil => by rw [List.zip_nil_right, List.zip_nil_right]; exact .nil
  | k :: ks, _, _, .cons h r => by
    rw [List.map_cons, List.zip_cons_cons, List.zip_cons_cons]
    exact .cons h (FDs.keyed r)
theorem keyed_map : ∀ (ks : List Str) (vs : List V), (ks.map V.str).zip vs = ((ks.map (Sum.inr : Str → Key)).zip vs).map fun kv => (kV kv.1, kv.2)
  | [], _ => by simp
  | k :: ks, [] => by simp
  | k :: ks, v :: vs => by
    simp only [List.map_cons, List.zip_cons_cons, keyed_map ks vs] <;> rfl
theorem ve_dsp {ks : List Str} {keys : List (Option Expr)} {vals : List Expr} {m : M (List Val)} {pos : Pos} (hk : keysOk ks keys = true) (hl : keys.length = vals.length) (h0 : keys ≠ []) (h15 : keys.length ≤ 15) (hs : VL X W vals m) :
    VE X W (.Dict keys vals pos) (m.bind fun xs => M.of (if ks.length = xs.length ∧ ks.length ≤ 15 then some (.dct (mergeD [] ((ks.map Sum.inr).zip (xs.map (·.1)))), .un .fz) else none)) := by
  intro τ H Z fp σ Q r k hp
  obtain ⟨pp, hall, hlk⟩ := pps_of (X := X) (pos := pos) hk hl
  refine WE.of (pe_disp pp hall hl h0 h15) ?_
  intro p hpn
  have ex : Ext H (upd H p (.dK [])) [p] := ⟨upd_ext hpn, .inr ⟨p, rfl, hpn, by rw [upd_same]; trivial⟩⟩
  obtain ⟨s1, k1⟩ := ex.step k
  have r1 := r.stay ex.stays fun x h u hu => ex.1 x u hu
  refine pairs_of (by rw [← hlk, hl]) ?_
  refine hs τ _ Z fp σ _ r1 k1.right (Post.step hp.bind s1 k1 fun as σ2 q => ?_)
  intro vs H2 Z2 f g s2 k2 rvs rs2
  have hp2 : H2 p = some (.dK []) := s2.keep k1 p (by simp) _ upd_same
  refine ⟨hp2, (ks.map Sum.inr).zip vs, keyed_map ks vs, ?_, ?_⟩
  · rw [List.length_zip, List.length_map]; omega
  unfold M.of at q
  split at q
  · rename_i x hx
    replace q : kV1 X τ H Z fp Q x σ2 := q
    split at hx
    · cases hx
      have kA : Ok H2 Z2 ([p] ++ (f ++ g)) := k1.with s2 k2
      have sA : Stp (upd H p (.dK [])) Z ([p] ++ fp) H2 Z2 ([p] ++ (f ++ g)) := s2.under k1
      have pm : List.Perm ([p] ++ (f ++ g)) (f ++ ([p] ++ g)) := by
        rw [← List.append_assoc, ← List.append_assoc]
        exact (List.perm_append_comm (l₁ := [p]) (l₂ := f)).append_right g
      obtain ⟨s3, k3⟩ := frz_step (K := X.K) (mg := X.mg) kA pm
      have fds : FDs X.K X.mg H2 (zap Z2 f) vs (as.map (·.1)) := rvs.frz (fun a h => .inl h) fun a h => .inr h
      have rs3 : RSl X.K X.mg H2 (zap Z2 f) σ2 τ g := rs2.stay (zap_stays Z2 f) fun _ _ _ h => h
      have s4 : Stp H2 (zap Z2 f) ([p] ++ g) (upd H2 p (.dK (mergeK [] ((ks.map Sum.inr).zip vs)))) (zap Z2 f) ([p] ++ g) := by
        refine ⟨fun a o h hn => ?_, fun a h => h, fun a h => .inl h, fun a h => .inl h⟩
        rw [upd_ne (fun e => hn (by rw [e]; simp))]
        exact h
      have hne : ∀ a ∈ g, a ≠ p := fun a ha e => by
        have := k3.nd
        rw [List.singleton_append, List.nodup_cons] at this
        exact this.1 (e ▸ ha)
      have k4 : Ok (upd H2 p (.dK (mergeK [] ((ks.map Sum.inr).zip vs)))) (zap Z2 f) ([p] ++ g) := by
        refine ⟨k3.nd, fun a ha => ?_, k3.nz, fun a hz => ?_⟩
        · by_cases e : a = p
          · rw [e, upd_same]; trivial
          · rw [upd_ne e]; exact k3.mb a ha
        · by_cases e : a = p
          · rw [e, upd_same]; exact fun z => by cases z
          · rw [upd_ne e]; exact k3.zt a hz
      have st4 := s4.stays k3
      refine q (.ref p) _ _ [p] g (((s1.trans sA).trans s3).trans s4) k4 ?_ (rs3.stay st4 fun a ha u hu => by rw [upd_ne (hne a ha)]; exact hu)
      unfold R
      refine ⟨p, [], rfl, rfl, .inr ⟨_, _, rfl, upd_same, fdk_allK (FDk.stay st4 ?_)⟩⟩
      exact FDk.merge (FDs.keyed fds) .nil
    · cases hx
  · exact q.elim
end
end Py

set_option Elab.async false
set_option linter.all false
set_option maxRecDepth 100000
set_option maxHeartbeats 4000000
/-! PyL: the look at a text: does it say what the own syntax says? Expressions. -/
namespace Py
open PySem PySem.Spec PyProof.Rows L2
/-! ### names -/
def visN (sc : Scope) (x : Str) : Bool := match sc.names.lookup x with
  | some .local => true
  | some .cell => true
  | some .free => true
  | _ => false
def locN (sc : Scope) (x : Str) : Bool := match sc.names.lookup x with
  | some .local => true
  | some .cell => true
  | _ => false
def glN (sc : Scope) (x : Str) : Bool := match sc.names.lookup x with
  | some .globalImplicit => true
  | _ => false
def plainN (x : Str) : Bool := !(x == ("__debug__" : Str)) && !(x == ("__classdict__" : Str))
def varOk (N : List Str) (sc : Scope) (i : Nat) (x : Str) : Bool := decide (N[i]? = some x) && visN sc x && plainN x
def tgtOk (N : List Str) (sc : Scope) (i : Nat) (x : Str) : Bool := decide (N[i]? = some x) && locN sc x
def cstOk (d : D) (x : Expr) : Bool := match x with
  | .Constant (.int i) _ _ => (match d with | .int j => decide (i = j) | _ => false)
  | .Constant (.bool b) _ _ => (match d with | .bl c => decide (b = c) | _ => false)
  | .Constant (.str b) _ _ => (match d with | .str c => decide (b = c) | _ => false)
  | .Constant .none _ _ => (match d with | .non => true | _ => false)
  | _ => false
def cmpOf : Prim → Option CmpOp
  | .lt => some .Lt | .le => some .LtE | .gt => some .Gt | .ge => some .GtE | _ => none
/-- no call without arguments -/
def baseOk : Expr → Bool
  | .Call _ _ _ _ => false
  | _ => true
def mthName : Prim → Str → Nat → Bool
  | .dget2, m, n => decide (m = "get") && n == 2
  | .tindex, m, n => decide (m = "index") && n == 1
  | _, _, _ => false
mutual
def chkP (N : List Str) (sc : Scope) (p : Pat) (x : Expr) : Bool := match p with
  | .nm i => (match x with | .Name y _ => tgtOk N sc i y | _ => false)
  | .nl => false
  | .cn p r => (match x with
    | .Tuple (t :: ts) _ _ => chkP N sc p t && noStar t && chkPs N sc r ts
    | _ => false)
def chkPs (N : List Str) (sc : Scope) (p : Pat) (xs : List Expr) : Bool := match p with
  | .nm _ => false
  | .nl => xs.isEmpty
  | .cn p r => (match xs with
    | t :: ts => chkP N sc p t && noStar t && chkPs N sc r ts
    | [] => false)
end
def Pat.isCn : Pat → Bool
  | .cn _ _ => true
  | _ => false
def ownN (N : List Str) (own : List Nat) : List (Str × Nat) := own.map fun i => (N.getD i default, i)
def Itr.weak : Itr → Bool
  | .zip _ _ => true
  | .enum _ => true
  | _ => false
def isTuple : Expr → Bool
  | .Tuple _ _ _ => true
  | _ => false
mutual
def chkE (S : Sig) (N : List Str) (sc : Scope) (e : Ex) (x : Expr) : Bool := match e with
  | .cst d => cstOk d x
  | .glb y => (match x with | .Name z _ => decide (y = z) && glN sc z && plainN z | _ => false)
  | .var i => (match x with | .Name z _ => varOk N sc i z | _ => false)
  | .mov i => (match x with | .Name z _ => varOk N sc i z | _ => false)
  | .tup es => (match x with | .Tuple xs _ _ => xs.all noStar && chkL S N sc es xs | _ => false)
  | .lst _ es => (match x with | .List xs _ => xs.all noStar && chkL S N sc es xs | _ => false)
  | .op p es => (match prArgs S sc p x with | some xs => chkA S N sc es xs | none => false)
  | .ife t a b => (match x with | .IfExp c y z _ => chkE S N sc t c && chkE S N sc a y && chkE S N sc b z | _ => false)
  | .and_ a b => (match x with
    | .BoolOp .And [y, z] _ => chkE S N sc a y && chkE S N sc b z
    | .BoolOp .And (y :: z :: w :: r) pos => chkE S N sc a y && chkE S N sc b (.BoolOp .And (z :: w :: r) pos)
    | _ => false)
  | .or_ a b => (match x with
    | .BoolOp .Or [y, z] _ => chkE S N sc a y && chkE S N sc b z
    | .BoolOp .Or (y :: z :: w :: r) pos => chkE S N sc a y && chkE S N sc b (.BoolOp .Or (z :: w :: r) pos)
    | _ => false)
  | .not_ a => (match x with | .UnaryOp .Not y _ => chkE S N sc a y | _ => false)
  | .chain p q a b c => (match x with
    | .Compare y [o1, o2] [z, w] _ => decide (cmpOf p = some o1) && decide (cmpOf q = some o2) && chkE S N sc a y && chkE S N sc b z && chkE S N sc c w
    | _ => false)
  | .mth p o es => (match x with
    | .Call (.Attribute y m apos) (z :: zs) [] cpos => mthName p m (zs.length + 1) && baseOk y && oneLine apos cpos && (z :: zs).all noStar && chkE S N sc o y && chkA S N sc es (z :: zs)
    | _ => false)
  | .call f es => (match x with
    | .Call (.Name y _) (z :: zs) [] _ => decide (f = y) && decide (f ∈ S.fns) && glN sc f && plainN f && (z :: zs).all noStar && chkA S N sc es (z :: zs)
    | _ => false)
  | .comp _ elt own p it cond => (match x with
    | .ListComp y [⟨tg, iter, ifs, 0⟩] scope _ => blkC N sc scope (ownN N own) && noSet iter && chkI S N sc it tg iter && chkC S N (relS scope sc) cond ifs && chkP N scope p tg && chkE S N (relS scope sc) elt y &&
        (p.slots.all fun i => decide (i ∈ own)) && (!it.weak || p.isCn)
    | _ => false)
  | .dsp ks vs => (match x with
    | .Dict keys vals _ => keysOk ks keys && decide (keys.length = vals.length) && !keys.isEmpty && decide (keys.length ≤ 15) && chkL S N sc vs vals
    | _ => false)
def chkC (S : Sig) (N : List Str) (sc : Scope) (c : Option_) (xs : List Expr) : Bool := match c with
  | .none => xs.isEmpty
  | .some e => (match xs with | [x] => chkE S N sc e x | _ => false)
def chkL (S : Sig) (N : List Str) (sc : Scope) (es : Exs) (xs : List Expr) : Bool := match es with
  | .nil => xs.isEmpty
  | .cons e es => (match xs with | x :: xs => chkE S N sc e x && chkL S N sc es xs | [] => false)
def chkA (S : Sig) (N : List Str) (sc : Scope) (es : Exs) (xs : List Expr) : Bool := match es with
  | .nil => xs.isEmpty
  | .cons e es => (match xs with | x :: xs => chkE S N sc e x && chkA S N sc es xs | [] => false)
def chkI (S : Sig) (N : List Str) (sc : Scope) (it : Itr) (tg x : Expr) : Bool := match it with
  | .seq e => chkE S N sc e x
  | .rng1 a => (match x with | .Call (.Name y _) [z] [] _ => decide (y = "range") && isB S sc "range" && noStar z && chkE S N sc a z | _ => false)
  | .rng2 a b => (match x with | .Call (.Name y _) [z, w] [] _ => decide (y = "range") && isB S sc "range" && noStar z && noStar w && chkE S N sc a z && chkE S N sc b w | _ => false)
  | .zip a b => (match x with | .Call (.Name y _) [z, w] [] _ => decide (y = "zip") && isB S sc "zip" && isTuple tg && noStar z && noStar w && chkE S N sc a z && chkE S N sc b w | _ => false)
  | .enum _ => false
end
/-! ### what is known of the context -/
structure Hy (X : Cx) (W : WX) (C : Cfg) (S : Sig) (N : List Str) (sc : Scope) (k : Nat) : Prop where
  n : X.N = N
  nd : N.Nodup
  esc : X.env.scope = sc
  calm : X.calm = true
  tk : L2N.Takes X W
  room : Room k X.A
  blt : ∀ x ∈ S.blts, X.mg x = none
  fns : ∀ x ∈ S.fns, ∃ f fd ps io, FnOk X.prog X.w X.K X.mg X.base (L2N.CX X.prog X.w) k f fd ps (spF X.K X.mg io (C.cl x)) ∧ X.mg x = some (.ref f) ∧ PySem.W.keepIn X.K (.ref f) = true ∧ Binds X.K fd ps [] ∧ C.io x = some io
  gcs : ∀ x d, C.gc x = some d → ∃ v u, X.mg x = some u ∧ RelV v u ∧ ∀ H Z, FD X.K X.mg H Z v d
section
variable {X : Cx} {W : WX} {C : Cfg} {S : Sig} {N : List Str} {sc : Scope} {k : Nat}
theorem Hy.blk (h : Hy X W C S N sc k) (s : Shared) (H : Hp) (scope : Scope) (cl : List (Str × Addr)) (c : Addr) (fp : List Addr) : Hy (bk X s H scope cl c fp) WF C S N (relS scope sc) k := by
  refine ⟨h.n, h.nd, ?_, h.calm, takesF, h.room, h.blt, h.fns, h.gcs⟩
  show relS scope X.env.scope = relS scope sc
  rw [h.esc]
theorem visN_ok {x : Str} (h : visN sc x = true) : Vis sc x := by
  unfold visN at h
  split at h
  · rename_i e; exact .inl e
  · rename_i e; exact .inr (.inl e)
  · rename_i e; exact .inr (.inr e)
  · cases h
theorem locN_ok {x : Str} (h : locN sc x = true) : Loc sc x := by
  unfold locN at h
  split at h
  · rename_i e; exact .inl e
  · rename_i e; exact .inr e
  · cases h
theorem plainN_ok {x : Str} (h : plainN x = true) : (x == ("__debug__" : Str)) = false ∧ (x == ("__classdict__" : Str)) = false := by
  unfold plainN at h
  simpa [Bool.and_eq_true] using h
theorem var_ok (h : Hy X W C S N sc k) {i : Nat} {x : Str} {pos : Pos} (q : varOk N sc i x = true) : PE X (.Name x pos) (tVar i) := by
  unfold varOk at q
  simp only [Bool.and_eq_true, decide_eq_true_eq] at q
  obtain ⟨⟨h1, h2⟩, h3⟩ := q
  obtain ⟨d1, d2⟩ := plainN_ok h3
  exact pe_var (by rw [h.n]; exact h1) (by rw [h.esc]; exact visN_ok h2) d1 d2
theorem gl_ok (h : Hy X W C S N sc k) {x : Str} (q : glN sc x = true) : Gl X x := by
  show X.env.scope.names.lookup x = _
  rw [h.esc]
  unfold glN at q
  split at q
  · assumption
  · cases q
theorem cst_ok {d : D} {x : Expr} (q : cstOk d x = true) : VE X W x (M.pure (d, .fz)) ∧ plainT x = true := by
  unfold cstOk at q
  split at q
  · split at q
    · have e := of_decide_eq_true q; subst e; exact ⟨ve_fz pe_int fun _ _ => .int _, rfl⟩
    · cases q
  · split at q
    · have e := of_decide_eq_true q; subst e; exact ⟨ve_fz pe_bl fun _ _ => .bl _, rfl⟩
    · cases q
  · split at q
    · have e := of_decide_eq_true q; subst e; exact ⟨ve_fz pe_str fun _ _ => .str _, rfl⟩
    · cases q
  · split at q
    · exact ⟨ve_fz pe_non fun _ _ => .non, rfl⟩
    · cases q
  · cases q
/-! targets -/
structure Tg (X : Cx) (N : List Str) (sc : Scope) : Prop where
  n : X.N = N
  nd : N.Nodup
  calm : X.calm = true
  loc : ∀ x, locN sc x = true → Loc X.env.scope x ∧ (X.fn x = true ∨ X.env.scope.names.lookup x = some .local)
theorem Tg.blk {W : WX} {C : Cfg} {S : Sig} {k : Nat} (h : Hy X W C S N sc k) (s : Shared) (H : Hp) (scope : Scope) (cl : List (Str × Addr)) (c : Addr) (fp : List Addr) : Tg (bk X s H scope cl c fp) N scope := by
  refine ⟨h.n, h.nd, h.calm, fun x hx => ?_⟩
  rcases locN_ok hx with e | e
  · have := lookup_relS_keep (sc := X.env.scope) (by decide) e
    exact ⟨.inl this, .inr this⟩
  · have := lookup_relS_keep (sc := X.env.scope) (by decide) e
    exact ⟨.inr this, .inl (by show (scope.names.lookup x == some .cell) = true; rw [e]; rfl)⟩
theorem chkPs_noStar {N : List Str} {sc : Scope} : ∀ (p : Pat) (xs : List Expr), chkPs N sc p xs = true → xs.all noStar = true ∧ ∀ ds o σ σ', asgP p (.tup ds, o) σ = some σ' → ds.length = xs.length := by
  intro p
  induction p with
  | nm i => intro xs h; cases h
  | nl =>
    intro xs h
    unfold chkPs at h
    obtain rfl : xs = [] := List.isEmpty_iff.mp h
    refine ⟨rfl, fun ds o σ σ' e => ?_⟩
    cases ds with
    | nil => rfl
    | cons d ds => unfold asgP at e; cases e
  | cn p r ih1 ih2 =>
    intro xs h
    unfold chkPs at h
    split at h
    · rename_i t ts
      simp only [Bool.and_eq_true] at h
      obtain ⟨⟨h1, h2⟩, h3⟩ := h
      obtain ⟨a, b⟩ := ih2 ts h3
      refine ⟨by rw [List.all_cons, h2, a]; rfl, fun ds o σ σ' e => ?_⟩
      cases ds with
      | nil => cases o <;> first | (unfold asgP at e; cases e; done) | (rename_i c; cases c <;> (unfold asgP at e; cases e; done))
      | cons d ds =>
        cases o with
        | fz =>
          unfold asgP at e
          cases e1 : asgP p (d, Own.fz) σ with
          | none => rw [e1] at e; cases e
          | some σ1 => rw [e1] at e; rw [List.length_cons, List.length_cons, b _ _ _ _ e]
        | tu c =>
          cases c with
          | cn o1 c1 =>
            unfold asgP at e
            cases e1 : asgP p (d, o1) σ with
            | none => rw [e1] at e; cases e
            | some σ1 => rw [e1] at e; rw [List.length_cons, List.length_cons, b _ _ _ _ e]
          | _ => unfold asgP at e; cases e
        | _ => unfold asgP at e; cases e
    · cases h
mutual
theorem chkP_ok {sc0 : Scope} (h : Tg X N sc0) : ∀ (p : Pat) (x : Expr), chkP N sc0 p x = true → VG X x p
  | .nm i, x, q => by
    unfold chkP at q
    split at q
    · unfold tgtOk at q
      simp only [Bool.and_eq_true, decide_eq_true_eq] at q
      obtain ⟨l, f⟩ := h.loc _ q.2
      exact vg_name (pg_name (by rw [h.n]; exact h.nd) (by rw [h.n]; exact q.1) l f)
    · cases q
  | .nl, x, q => by unfold chkP at q; cases q
  | .cn p r, x, q => by
    unfold chkP at q
    split at q
    · rename_i t ts k0 pos
      simp only [Bool.and_eq_true] at q
      obtain ⟨⟨q1, q2⟩, q3⟩ := q
      have w : chkPs N sc0 (.cn p r) (t :: ts) = true := by
        unfold chkPs
        simp only [Bool.and_eq_true]
        exact ⟨⟨q1, q2⟩, q3⟩
      exact vg_tup h.calm (chkPs_noStar _ _ w).1 (vgs_cons (chkP_ok h p t q1) (chkPs_ok h r ts q3)) ⟨p, r, rfl⟩ (chkPs_noStar _ _ w).2
    · cases q
theorem chkPs_ok {sc0 : Scope} (h : Tg X N sc0) : ∀ (p : Pat) (xs : List Expr), chkPs N sc0 p xs = true → VGs X xs p
  | .nm i, x, q => by unfold chkPs at q; cases q
  | .nl, xs, q => by
    unfold chkPs at q
    obtain rfl : xs = [] := List.isEmpty_iff.mp q
    exact vgs_nil
  | .cn p r, xs, q => by
    unfold chkPs at q
    split at q
    · rename_i t ts
      simp only [Bool.and_eq_true] at q
      exact vgs_cons (chkP_ok h p t q.1.1) (chkPs_ok h r ts q.2)
    · cases q
end
end
end Py

set_option Elab.async false
set_option linter.all false
set_option maxRecDepth 100000
set_option maxHeartbeats 4000000
/-! PyM: the look is right: expressions. -/
namespace Py
open PySem PySem.Spec PyProof.Rows L2
def isBO : Expr → Bool
  | .BoolOp _ _ _ => true
  | _ => false
theorem prBO {S : Sig} {sc : Scope} {p : Prim} {x : Expr} {xs : List Expr} (b : isBO x = true) (h : prArgs S sc p x = some xs) : False := by
  cases x <;> first | (cases b; done) | (cases p <;> cases h)
theorem vt_bad {X : Cx} {W : WX} {x : Expr} : VT X W x M.bad := fun τ H Z fp σ Q r k hp => hp.elim
theorem vw_bad {X : Cx} {W : WX} {x : Expr} : VW X W x M.bad := fun τ H Z fp σ Q r k hp => hp.elim
theorem cmp_ok2 {X : Cx} {p : Prim} {o : CmpOp} (h : cmpOf p = some o) : ∃ r, OpR X (compareOp o) r ∧ PrimOk X p (two r) ∧ o ≠ .In ∧ o ≠ .NotIn := by
  unfold cmpOf at h
  split at h
  · cases h; exact ⟨_, op_lt, ok_lt, by decide, by decide⟩
  · cases h; exact ⟨_, op_le, ok_le, by decide, by decide⟩
  · cases h; exact ⟨_, op_gt, ok_gt, by decide, by decide⟩
  · cases h; exact ⟨_, op_ge, ok_ge, by decide, by decide⟩
  · cases h
theorem base_ok {o : Expr} {m : Str} {env : Env} (h : baseOk o = true) : attributeBase o m env (eval o env) = eval o env := by
  cases o <;> first | rfl | cases h
theorem mth_ok {X : Cx} {p : Prim} {m : Str} {y z : Expr} {zs : List Expr} {apos cpos : Pos} (hu : X.A.units + 1 < cLine) (hm : mthName p m (zs.length + 1) = true) (hb : baseOk y = true) (hl : oneLine apos cpos = true) (hn : (z :: zs).all noStar = true) :
    MthR X (.Call (.Attribute y m apos) (z :: zs) [] cpos) y (z :: zs) p := by
  unfold mthName at hm
  split at hm
  · simp only [Bool.and_eq_true, decide_eq_true_eq, beq_iff_eq] at hm
    obtain ⟨rfl, h2⟩ := hm
    match zs, h2 with
    | [w], _ => exact get2_ok hu hn (base_ok hb) hl
  · simp only [Bool.and_eq_true, decide_eq_true_eq, beq_iff_eq] at hm
    obtain ⟨rfl, h2⟩ := hm
    match zs, h2 with
    | [], _ =>
      have hn' : noStar z = true := by simpa using hn
      exact tindex_ok hn' (base_ok hb) hl
  · cases hm
theorem cn_of {p : Pat} (h : p.isCn = true) : ∃ q r, p = .cn q r := by
  cases p with
  | cn q r => exact ⟨q, r, rfl⟩
  | _ => cases h
theorem ownN_snd (N : List Str) (own : List Nat) : (ownN N own).map (·.2) = own := by
  unfold ownN
  rw [List.map_map]
  exact List.map_id' own
theorem room_units {k : Nat} {A : Around} (r : Room k A) : A.units + 64 < cLine := by
  have := r.un
  omega
theorem opd_ok {X : Cx} {W : WX} {C : Cfg} {S : Sig} {N : List Str} {sc : Scope} {k : Nat} (e : Ex) (h : Hy X W C S N sc k) (x : Expr) (q : chkE S N sc e x = true) (v : VE X W x (evE C e)) : VO X W x (opdM e (evE C e)) := by
  cases e with
  | var i =>
    unfold chkE at q
    split at q
    · exact vo_var (var_ok h q)
    · cases q
  | _ => exact vo_of_ve v
mutual
theorem chkE_ok : ∀ (e : Ex) {X : Cx} {W : WX} {C : Cfg} {S : Sig} {N : List Str} {sc : Scope} {k : Nat} (h : Hy X W C S N sc k) (x : Expr), chkE S N sc e x = true →
    VE X W x (evE C e) ∧ VT X W x (evT C e) ∧ (isBO x = true → VW X W x (evT C e))
  | .cst d, X, W, C, S, N, sc, k, h, x, q => by
    unfold chkE at q
    obtain ⟨a, b⟩ := cst_ok (X := X) (W := W) q
    refine ⟨by rw [evE]; exact a, ?_, fun z => ?_⟩
    · rw [evT]
      exact vt_val a b
    · cases x <;> first | (cases z; done) | cases q
  | .glb y, X, W, C, S, N, sc, k, h, x, q => by
    unfold chkE at q
    split at q
    · rename_i z pos
      simp only [Bool.and_eq_true, decide_eq_true_eq] at q
      obtain ⟨⟨rfl, q2⟩, q3⟩ := q
      refine ⟨?_, by rw [evT]; exact vt_bad, fun z => by cases z⟩
      rw [evE]
      intro τ H Z fp σ Q r ok hp
      cases e : C.gc y with
      | none => rw [e] at hp; exact hp.elim
      | some d =>
        rw [e] at hp
        obtain ⟨v, u, m1, m2, m3⟩ := h.gcs y d e
        exact ve_fz (W := W) (pe_glob (gl_ok h q2) m1 m2 (plainN_ok q3).1) m3 τ H Z fp σ Q r ok hp
    · cases q
  | .var i, X, W, C, S, N, sc, k, h, x, q => by
    unfold chkE at q
    split at q
    · rename_i y pos
      have v := ve_var (W := W) (var_ok (pos := pos) h q)
      exact ⟨by rw [evE]; exact v, by rw [evT]; exact vt_val v rfl, fun z => by cases z⟩
    · cases q
  | .mov i, X, W, C, S, N, sc, k, h, x, q => by
    unfold chkE at q
    split at q
    · exact ⟨by rw [evE]; exact ve_mov (var_ok h q), by rw [evT]; exact vt_bad, fun z => by cases z⟩
    · cases q
  | .tup es, X, W, C, S, N, sc, k, h, x, q => by
    unfold chkE at q
    split at q
    · simp only [Bool.and_eq_true] at q
      exact ⟨by rw [evE]; exact ve_tup (chkL_ok es h _ q.2) q.1, by rw [evT]; exact vt_bad, fun z => by cases z⟩
    · cases q
  | .lst c es, X, W, C, S, N, sc, k, h, x, q => by
    unfold chkE at q
    split at q
    · simp only [Bool.and_eq_true] at q
      exact ⟨by rw [evE]; exact ve_lst (chkL_ok es h _ q.2) q.1, by rw [evT]; exact vt_bad, fun z => by cases z⟩
    · cases q
  | .op p es, X, W, C, S, N, sc, k, h, x, q => by
    unfold chkE at q
    split at q
    · rename_i xs e
      have pr := prim_ok (X := X) e h.esc h.blt h.calm (room_units h.room)
      have va := chkA_ok es h xs q
      exact ⟨by rw [evE]; exact ve_op va pr, by rw [evT]; exact vt_op va pr, fun z => (prBO z e).elim⟩
    · cases q
  | .ife t a b, X, W, C, S, N, sc, k, h, x, q => by
    unfold chkE at q
    split at q
    · simp only [Bool.and_eq_true] at q
      obtain ⟨⟨q1, q2⟩, q3⟩ := q
      have h1 := chkE_ok t h _ q1
      have h2 := chkE_ok a h _ q2
      have h3 := chkE_ok b h _ q3
      exact ⟨by rw [evE]; exact ve_ife h1.2.1 h2.1 h3.1, by rw [evT]; exact vt_ife h1.2.1 h2.2.1 h3.2.1, fun z => by cases z⟩
    · cases q
  | .and_ a b, X, W, C, S, N, sc, k, h, x, q => by
    unfold chkE at q
    split at q
    · rename_i y z pos
      simp only [Bool.and_eq_true] at q
      have h1 := chkE_ok a h _ q.1
      have h2 := chkE_ok b h _ q.2
      have w := vw_and (b := z) (pos := pos) h1.2.1 (vw_one (op := .And) h2.2.1)
      exact ⟨by rw [evE]; exact ve_and h1.1 (ve_one h2.1), by rw [evT]; exact w.vt, fun _ => by rw [evT]; exact w⟩
    · simp only [Bool.and_eq_true] at q
      have h1 := chkE_ok a h _ q.1
      have h2 := chkE_ok b h _ q.2
      have w := vw_and h1.2.1 (h2.2.2 rfl)
      exact ⟨by rw [evE]; exact ve_and h1.1 h2.1, by rw [evT]; exact w.vt, fun _ => by rw [evT]; exact w⟩
    · cases q
  | .or_ a b, X, W, C, S, N, sc, k, h, x, q => by
    unfold chkE at q
    split at q
    · rename_i y z pos
      simp only [Bool.and_eq_true] at q
      have h1 := chkE_ok a h _ q.1
      have h2 := chkE_ok b h _ q.2
      have w := vw_or (b := z) (pos := pos) h1.2.1 (vw_one (op := .Or) h2.2.1)
      exact ⟨by rw [evE]; exact ve_or h1.1 (ve_one h2.1), by rw [evT]; exact w.vt, fun _ => by rw [evT]; exact w⟩
    · simp only [Bool.and_eq_true] at q
      have h1 := chkE_ok a h _ q.1
      have h2 := chkE_ok b h _ q.2
      have w := vw_or h1.2.1 (h2.2.2 rfl)
      exact ⟨by rw [evE]; exact ve_or h1.1 h2.1, by rw [evT]; exact w.vt, fun _ => by rw [evT]; exact w⟩
    · cases q
  | .not_ a, X, W, C, S, N, sc, k, h, x, q => by
    unfold chkE at q
    split at q
    · have h1 := chkE_ok a h _ q
      exact ⟨by rw [evE]; exact ve_not h1.1, by rw [evT]; exact vt_not h1.2.1, fun z => by cases z⟩
    · cases q
  | .chain p p2 a b c, X, W, C, S, N, sc, k, h, x, q => by
    unfold chkE at q
    split at q
    · simp only [Bool.and_eq_true, decide_eq_true_eq] at q
      obtain ⟨⟨⟨⟨q1, q2⟩, q3⟩, q4⟩, q5⟩ := q
      obtain ⟨r1, o1, k1, _, _⟩ := cmp_ok2 (X := X) q1
      obtain ⟨r2, o2, k2, n1, n2⟩ := cmp_ok2 (X := X) q2
      have h1 := chkE_ok a h _ q3
      have h2 := chkE_ok b h _ q4
      have h3 := chkE_ok c h _ q5
      exact ⟨by rw [evE]; exact ve_chain o1 o2 k1 k2 (nomark _ n1 n2) h1.1 h2.1 h3.1, by rw [evT]; exact vt_chain o1 o2 k1 k2 (nomark _ n1 n2) h1.1 h2.1 h3.1, fun z => by cases z⟩
    · cases q
  | .mth p o es, X, W, C, S, N, sc, k, h, x, q => by
    unfold chkE at q
    split at q
    · rename_i y m apos z zs cpos
      simp only [Bool.and_eq_true] at q
      obtain ⟨⟨⟨⟨⟨q1, q2⟩, q3⟩, q4⟩, q5⟩, q6⟩ := q
      have mr := mth_ok (X := X) (by have := room_units h.room; omega) q1 q2 q3 (by simpa using q4)
      have v := ve_mth (W := W) mr (opd_ok o h y q5 (chkE_ok o h y q5).1) (chkA_ok es h _ q6)
      exact ⟨by rw [evE]; exact v, by rw [evT]; exact vt_val v rfl, fun z => by cases z⟩
    · cases q
  | .call f es, X, W, C, S, N, sc, k, h, x, q => by
    unfold chkE at q
    split at q
    · rename_i y p z zs pos
      simp only [Bool.and_eq_true, decide_eq_true_eq] at q
      obtain ⟨⟨⟨⟨⟨rfl, q2⟩, q3⟩, q4⟩, q5⟩, q6⟩ := q
      obtain ⟨g, fd, ps, io, F, m1, m2, m3, m4⟩ := h.fns f q2
      have v := ve_call (W := W) (C := C) (p := p) (pos := pos) F h.room (gl_ok h q3) m1 m2 m3 h.tk m4 rfl (chkA_ok es h _ q6) (by simpa using q5) (plainN_ok q4).1
      exact ⟨by rw [evE]; exact v, by rw [evT]; exact vt_val v rfl, fun z => by cases z⟩
    · cases q
  | .comp c elt own p it cond, X, W, C, S, N, sc, k, h, x, q => by
    unfold chkE at q
    split at q
    · rename_i y tg iter ifs scope pos
      simp only [Bool.and_eq_true] at q
      obtain ⟨⟨⟨⟨⟨⟨⟨q1, q2⟩, q3⟩, q4⟩, q5⟩, q6⟩, q7⟩, q8⟩ := q
      refine ⟨?_, by rw [evT]; exact vt_bad, fun z => by cases z⟩
      rw [evE]
      have b := blkOk_by q1
      rw [← h.n, ← h.esc] at b
      have := ve_comp (W := W) (pos := pos) (c := c) h.calm (by rw [h.n]; exact h.nd) b q2 (chkI_ok it h tg iter q3) (chkC_ok cond h scope ifs q4)
        (fun s H C cl fp => chkP_ok (Tg.blk h s H scope cl C fp) p tg q5) (fun s H c cl fp => (chkE_ok elt (h.blk s H scope cl c fp) y q6).1)
        (fun i hi => by rw [h.n, ownN_snd]; exact of_decide_eq_true (List.all_eq_true.mp q7 i hi)) (fun hw => cn_of (by rw [hw] at q8; simpa using q8))
      rw [h.n, ownN_snd] at this
      exact this
    · cases q
  | .dsp ks vs, X, W, C, S, N, sc, k, h, x, q => by
    unfold chkE at q
    split at q
    · simp only [Bool.and_eq_true, decide_eq_true_eq, Bool.not_eq_true'] at q
      obtain ⟨⟨⟨⟨q1, q2⟩, q3⟩, q4⟩, q5⟩ := q
      refine ⟨?_, by rw [evT]; exact vt_bad, fun z => by cases z⟩
      rw [evE]
      exact ve_dsp q1 q2 (fun e => by rw [e] at q3; cases q3) q4 (chkL_ok vs h _ q5)
    · cases q
theorem chkC_ok : ∀ (c : Option_) {X : Cx} {W : WX} {C : Cfg} {S : Sig} {N : List Str} {sc : Scope} {k : Nat} (h : Hy X W C S N sc k) (scope : Scope) (xs : List Expr), chkC S N (relS scope sc) c xs = true → VC X scope xs (evC C c)
  | .none, X, W, C, S, N, sc, k, h, scope, xs, q => by
    unfold chkC at q
    rw [evC]
    exact .inl ⟨List.isEmpty_iff.mp q, rfl⟩
  | .some e, X, W, C, S, N, sc, k, h, scope, xs, q => by
    unfold chkC at q
    rw [evC]
    split at q
    · rename_i x
      exact .inr ⟨x, rfl, fun s H c cl fp => (chkE_ok e (h.blk s H scope cl c fp) x q).2.1⟩
    · cases q
theorem chkL_ok : ∀ (es : Exs) {X : Cx} {W : WX} {C : Cfg} {S : Sig} {N : List Str} {sc : Scope} {k : Nat} (h : Hy X W C S N sc k) (xs : List Expr), chkL S N sc es xs = true → VL X W xs (evL C es)
  | .nil, X, W, C, S, N, sc, k, h, xs, q => by
    unfold chkL at q
    rw [evL, List.isEmpty_iff.mp q]
    exact vl_nil
  | .cons e es, X, W, C, S, N, sc, k, h, xs, q => by
    unfold chkL at q
    split at q
    · simp only [Bool.and_eq_true] at q
      rw [evL]
      exact vl_cons (chkE_ok e h _ q.1).1 (chkL_ok es h _ q.2)
    · cases q
theorem chkA_ok : ∀ (es : Exs) {X : Cx} {W : WX} {C : Cfg} {S : Sig} {N : List Str} {sc : Scope} {k : Nat} (h : Hy X W C S N sc k) (xs : List Expr), chkA S N sc es xs = true → VA X W xs (evA C es)
  | .nil, X, W, C, S, N, sc, k, h, xs, q => by
    unfold chkA at q
    rw [evA, List.isEmpty_iff.mp q]
    exact va_nil
  | .cons e es, X, W, C, S, N, sc, k, h, xs, q => by
    unfold chkA at q
    split at q
    · simp only [Bool.and_eq_true] at q
      rw [evA]
      exact va_cons (opd_ok e h _ q.1 (chkE_ok e h _ q.1).1) (chkA_ok es h _ q.2)
    · cases q
theorem chkI_ok : ∀ (it : Itr) {X : Cx} {W : WX} {C : Cfg} {S : Sig} {N : List Str} {sc : Scope} {k : Nat} (h : Hy X W C S N sc k) (tg x : Expr), chkI S N sc it tg x = true → VI X W tg x it.weak (evI C it)
  | .seq e, X, W, C, S, N, sc, k, h, tg, x, q => by
    unfold chkI at q
    rw [evI]
    exact vi_seq (chkE_ok e h _ q).1
  | .rng1 a, X, W, C, S, N, sc, k, h, tg, x, q => by
    unfold chkI at q
    rw [evI]
    split at q
    · simp only [Bool.and_eq_true, decide_eq_true_eq] at q
      obtain ⟨⟨⟨rfl, q2⟩, q3⟩, q4⟩ := q
      obtain ⟨g1, g2⟩ := isB_gl q2 h.esc h.blt
      exact vi_rng1 g1 g2 q3 (chkE_ok a h _ q4).1
    · cases q
  | .rng2 a b, X, W, C, S, N, sc, k, h, tg, x, q => by
    unfold chkI at q
    rw [evI]
    split at q
    · simp only [Bool.and_eq_true, decide_eq_true_eq] at q
      obtain ⟨⟨⟨⟨⟨rfl, q2⟩, q3⟩, q4⟩, q5⟩, q6⟩ := q
      obtain ⟨g1, g2⟩ := isB_gl q2 h.esc h.blt
      exact vi_rng2 g1 g2 q3 q4 (chkE_ok a h _ q5).1 (chkE_ok b h _ q6).1
    · cases q
  | .zip a b, X, W, C, S, N, sc, k, h, tg, x, q => by
    unfold chkI at q
    rw [evI]
    split at q
    · simp only [Bool.and_eq_true, decide_eq_true_eq] at q
      obtain ⟨⟨⟨⟨⟨⟨rfl, q2⟩, q3⟩, q4⟩, q5⟩, q6⟩, q7⟩ := q
      obtain ⟨g1, g2⟩ := isB_gl q2 h.esc h.blt
      cases tg with
      | Tuple elts kk tpos => exact vi_zip g1 g2 q4 q5 (chkE_ok a h _ q6).1 (chkE_ok b h _ q7).1
      | _ => cases q3
    · cases q
  | .enum a, X, W, C, S, N, sc, k, h, tg, x, q => by
    unfold chkI at q
    cases q
end
end Py

set_option Elab.async false
set_option linter.all false
set_option maxRecDepth 100000
set_option maxHeartbeats 4000000
/-! PyN: the look at statements and defs. -/
namespace Py
open PySem PySem.Spec PyProof.Rows L2
/-! ### which way an assignment goes -/
def swT (sc : Scope) (tg v : Expr) : Option Bool := match v with
  | .ListComp _ _ s vp => (match tg with
    | .Name t tp => some (sc.names.lookup t == some .local && tp.line == vp.line && !(s.names.any fun (n, k) => n == t && (k == .local || k == .cell)))
    | _ => some false)
  | .SetComp _ _ _ _ => none
  | .DictComp _ _ _ _ _ => none
  | _ => some false
def parT (sc : Scope) (tg v : Expr) : Option (Option (List Str)) := match tg with
  | .Tuple ts _ _ => (match v with
    | .Tuple vs _ _ =>
      if !(ts.length == 2 || ts.length == 3) || vs.length != ts.length then some none
      else if !vs.all noStar then none
      else
        let line := (ts.head?.map (·.pos.line)).getD 0
        let names := ts.filterMap fun
          | .Name id pos => if sc.names.lookup id == some .local && pos.line == line then some id else none
          | _ => none
        if names.length != ts.length || names.eraseDups.length != names.length then some none
        else if vs.all (foldedForSure 8) then some none
        else if vs.all (constantsAlone 8) then none
        else some (some names)
    | _ => some none)
  | .List _ _ => none
  | _ => some none
section
variable {X : Cx} {sc : Scope} {tg v : Expr}
theorem bkind (h : X.env.scope = sc) (hk : sc.kind = .function) : X.env.blockKind = .function := by
  unfold Env.blockKind
  rw [h, hk]
  rfl
theorem swT_ok {b : Bool} {l : Nat} (h : X.env.scope = sc) (hk : sc.kind = .function) (q : swT sc tg v = some b) : swapsWith v (some tg) l X.env = pure b := by
  cases v with
  | ListComp elt gs s vp =>
    cases tg with
    | Name t tp =>
      cases q
      unfold swapsWith
      rw [bkind h hk]
      unfold Env.kindOf
      rw [h]
      rfl
    | _ => cases q; rfl
  | SetComp _ _ _ _ => cases q
  | DictComp _ _ _ _ _ => cases q
  | _ => cases q; rfl
theorem noStar_any {vs : List Expr} (h : vs.all noStar = true) : (vs.any fun | .Starred .. => true | _ => false) = false := by
  rw [List.any_eq_false]
  intro e he
  have := List.all_eq_true.mp h e he
  cases e <;> first | (cases this; done) | exact Bool.false_ne_true
theorem parT_ok {r : Option (List Str)} (h : X.env.scope = sc) (hk : sc.kind = .function) (q : parT sc tg v = some r) : swappedStores [tg] v X.env = pure r := by
  cases tg with
  | Tuple ts k p =>
    cases v with
    | Tuple vs k2 p2 =>
      unfold parT at q
      unfold swappedStores
      dsimp only at q ⊢
      rw [bkind h hk]
      unfold Env.kindOf
      rw [h]
      split at q
      · rename_i c
        cases q
        rw [if_pos (by simpa using c)]
      · rename_i c
        rw [if_neg (by simpa using c)]
        split at q
        · cases q
        · rename_i c2
          refine (if_neg (fun z => Bool.false_ne_true ((noStar_any (by simpa using c2)).symm.trans z))).trans ?_
          split at q
          · rename_i c3
            cases q
            exact if_pos c3
          · rename_i c3
            refine (if_neg c3).trans ?_
            split at q
            · rename_i c4
              cases q
              exact if_pos c4
            · rename_i c4
              refine (if_neg c4).trans ?_
              split at q
              · cases q
              · rename_i c5
                refine (if_neg c5).trans ?_
                cases q
                rfl
    | _ => cases q; rfl
  | List _ _ => cases q
  | _ => cases q; cases v <;> rfl
end
/-! ### several names at once -/
def setT : List Nat → List V → L2.St → L2.St
  | i :: is, v :: vs, τ => setT is vs (τ.set i (some v))
  | _, _, τ => τ
theorem setAll_ok {K : PySem.W.Frag} {mg : Str → Option Value} {H : Hp} {Z : Addr → Prop} : ∀ {is : List Nat} {vs : List Val} {ws : List V} {σ σ' : Fr} {τ : L2.St} {f g : List Addr}, RVs K mg H Z vs ws f → RSl K mg H Z σ τ g → setAll is vs σ = some σ' →
    is.length = ws.length ∧ Keeps is τ (setT is ws τ) ∧ ∃ g', RSl K mg H Z σ' (setT is ws τ) g' ∧ Sb g' (f ++ g)
  | [], _, _, σ, σ', τ, _, g, .nil, r, e => by
    unfold setAll at e
    cases e
    exact ⟨rfl, Keeps.refl _ _, g, r, by rw [List.nil_append]; exact Sb.refl _⟩
  | i :: is, _, _, σ, σ', τ, _, g, .cons (d := d) (o := o) (v := v) (f := f1) (g := f2) h t, r, e => by
    unfold setAll at e
    split at e
    · rename_i hi
      obtain ⟨g0, g1, a1, a2, a3⟩ := r.put hi h
      obtain ⟨hl, kp, g', b1, b2⟩ := setAll_ok t a1 e
      refine ⟨by rw [List.length_cons, List.length_cons, hl], ?_, g', b1, fun z => ?_⟩
      · unfold setT
        exact (Keeps.set (i := i) (x := some v)).trans kp
      · have c1 := a2.count_eq z
        have c2 := a3.count_le z
        have c3 := b2 z
        simp only [List.count_append] at c1 c3 ⊢
        omega
    · cases e
  | [], _, _, _, _, _, _, _, .cons _ _, _, e => by unfold setAll at e; cases e
  | _ :: _, _, _, _, _, _, _, _, .nil, _, e => by unfold setAll at e; cases e
section
variable {X : Cx} {W : WX} {IO : List Nat}
theorem par_run {es : List Expr} {ma : M (List Val)} {is : List Nat} {τ : L2.St} {H : Hp} {Z : Addr → Prop} {fp : List Addr} {σ : Fr} {Dn : Ends} (h : VL X W es ma) (hI : ∀ i ∈ is, i ∉ IO) (r : RSl X.K X.mg H Z σ τ fp) (k : Ok H Z fp)
    (hq : PostS X W IO τ H Z fp Dn ((ma.bind fun vs σ => match setAll is vs σ with
    | some σ' => .ok .next σ'
    | none => .bad) σ)) : WEs X es τ H fun ws H1 => is.length = ws.length ∧ Dn.nx (setT is ws τ) H1 := by
  refine h τ H Z fp σ _ r k (hq.expr.mono fun vs σ1 q => ?_)
  intro ws H1 Z1 f g s1 k1 rv rs
  cases e : setAll is vs σ1 with
  | none => rw [e] at q; exact q.elim
  | some σ2 =>
    rw [e] at q
    obtain ⟨hl, kp, g', b1, b2⟩ := setAll_ok rv rs e
    exact ⟨hl, q _ H1 Z1 g' (kp.kpI hI) (s1.sb b2) (k1.sb b2) b1⟩
theorem vs_par3 {a b c : Expr} {ma : M (List Val)} {i j l : Nat} {x y z : Str} {px py pz pt pos : Pos} {kt k2 pt2} (hc : X.calm = true) (hN : X.N.Nodup) (hi : X.N[i]? = some x) (hj : X.N[j]? = some y) (hl : X.N[l]? = some z) (hij : i ≠ j) (hil : i ≠ l) (hjl : j ≠ l)
    (hx : X.env.scope.names.lookup x = some .local) (hy : X.env.scope.names.lookup y = some .local) (hz : X.env.scope.names.lookup z = some .local) (hn : [a, b, c].all noStar = true) (h : VL X W [a, b, c] ma) (hI : ∀ m ∈ [i, j, l], m ∉ IO)
    (hw : swappedStores [.Tuple [.Name x px, .Name y py, .Name z pz] kt pt] (.Tuple [a, b, c] k2 pt2) X.env = pure (some [x, y, z])) :
    VS X W IO (.Assign [.Tuple [.Name x px, .Name y py, .Name z pz] kt pt] (.Tuple [a, b, c] k2 pt2) pos) (ma.bind fun vs σ => match setAll [i, j, l] vs σ with
    | some σ' => .ok .next σ'
    | none => .bad) := by
  intro τ H Z fp σ D r k hq
  refine WS.of (ps_par3 hc hN hi hj hl hij hil hjl hx hy hz (paW X [a, b, c] hn) hw) ?_
  have := par_run h hI r k hq
  refine WE.mono this fun u H1 q1 => WE.mono q1 fun v H2 q2 => WE.mono q2 fun w H3 q3 => ?_
  exact ⟨u, v, w, rfl, q3.2⟩
end
/-! ### the look at statements -/
def outIO (IO : List Nat) (is : List Nat) : Bool := is.all fun i => decide (i ∉ IO)
def isComp : Ex → Bool
  | .comp _ _ _ _ _ _ => true
  | _ => false
mutual
def chkS (S : Sig) (N : List Str) (sc : Scope) (IO : List Nat) (s : Sm) (x : Stmt) : Bool := match s with
  | .asg p e => (match x with
    | .Assign [tg] v pos => chkE S N sc e v && chkP N sc p tg && noStar tg && outIO IO p.slots && decide (parT sc tg v = some none) &&
      (match swT sc tg v with
        | some false => true
        | some true => isComp e && (match tg with | .Name y _ => (match p with | .nm i => decide (N[i]? = some y) && decide (sc.names.lookup y = some .local) | _ => false) | _ => false)
        | none => false)
    | _ => false)
  | .par is es => (match x with
    | .Assign [.Tuple [.Name y py, .Name z pz] kt pt] (.Tuple [a, b] k2 p2) _ => (match is with
      | [i, j] => decide (N[i]? = some y) && decide (N[j]? = some z) && decide (i ≠ j) && decide (sc.names.lookup y = some .local) && decide (sc.names.lookup z = some .local) && [a, b].all noStar && chkL S N sc es [a, b] && outIO IO [i, j] &&
        decide (parT sc (.Tuple [.Name y py, .Name z pz] kt pt) (.Tuple [a, b] k2 p2) = some (some [y, z]))
      | _ => false)
    | .Assign [.Tuple [.Name y py, .Name z pz, .Name w pw] kt pt] (.Tuple [a, b, c] k2 p2) _ => (match is with
      | [i, j, l] => decide (N[i]? = some y) && decide (N[j]? = some z) && decide (N[l]? = some w) && decide (i ≠ j) && decide (i ≠ l) && decide (j ≠ l) && decide (sc.names.lookup y = some .local) && decide (sc.names.lookup z = some .local) && decide (sc.names.lookup w = some .local) &&
        [a, b, c].all noStar && chkL S N sc es [a, b, c] && outIO IO [i, j, l] &&
        decide (parT sc (.Tuple [.Name y py, .Name z pz, .Name w pw] kt pt) (.Tuple [a, b, c] k2 p2) = some (some [y, z, w]))
      | _ => false)
    | _ => false)
  | .sub i k e => (match x with
    | .Assign [.Subscript (.Name y p) ke sp] v pos => varOk N sc i y && noSlice ke && chkE S N sc k ke && chkE S N sc e v && decide (parT sc (.Subscript (.Name y p) ke sp) v = some none) && decide (swT sc (.Subscript (.Name y p) ke sp) v = some false)
    | _ => false)
  | .app i e => (match x with
    | .Expr (.Call (.Attribute (.Name y _) m apos) [v] [] cpos) _ => decide (m = "append") && varOk N sc i y && noStar v && oneLine apos cpos && chkE S N sc e v
    | _ => false)
  | .ext i e => (match x with
    | .Expr (.Call (.Attribute (.Name y _) m apos) [v] [] cpos) _ => decide (m = "extend") && varOk N sc i y && noStar v && oneLine apos cpos && chkE S N sc e v
    | _ => false)
  | .ex e => (match x with | .Expr v _ => noComp v && chkE S N sc e v | _ => false)
  | .ret e => (match x with | .Return (some v) _ => chkE S N sc e v | _ => false)
  | .retN => (match x with | .Return none _ => true | _ => false)
  | .iff t a b => (match x with | .If c ys zs _ => chkE S N sc t c && chkB S N sc IO a ys && chkB S N sc IO b zs | _ => false)
  | .for_ p it body => (match x with | .For tg iter ys [] _ => chkI S N sc it tg iter && chkP N sc p tg && noSet iter && outIO IO p.slots && (!it.weak || p.isCn) && chkB S N sc IO body ys | _ => false)
  | .whl t body => (match x with | .While c ys [] _ => chkE S N sc t c && chkB S N sc IO body ys | _ => false)
  | .rse c _ => (match x with
    | .Raise (some (.Call (.Name y _) [.Constant (.str _) _ _] [] _)) none _ => decide (c = y) && decide (c ∈ S.excs) && glN sc c && plainN c
    | _ => false)
  | .pss => (match x with | .Pass _ => true | _ => false)
  | .brk => (match x with | .Break _ => true | _ => false)
  | .cnt => (match x with | .Continue _ => true | _ => false)
def chkB (S : Sig) (N : List Str) (sc : Scope) (IO : List Nat) (s : Sms) (xs : List Stmt) : Bool := match s with
  | .nil => xs.isEmpty
  | .cons s r => (match xs with | x :: xs => chkS S N sc IO s x && chkB S N sc IO r xs | [] => false)
end
/-- an exception's class of the module -/
def ExcF (K : PySem.W.Frag) (mg : Str → Option Value) (x : Str) : Prop := ∃ (C : Addr) (bmB : List Value) (B newId initId : String), ExcBaseFacts B newId initId bmB ∧ PySem.W.excIn K C bmB newId = true ∧ mg x = some (.ref C) ∧ PySem.W.keepIn K (.ref C) = true ∧
  PySem.W.subIn K (.ref C) (.type "BaseException") = some true ∧ PySem.W.typeIn K (.ref C) = some (.type "type")
structure Hst (X : Cx) (W : WX) (C : Cfg) (S : Sig) (N : List Str) (sc : Scope) (k : Nat) : Prop where
  hy : Hy X W C S N sc k
  tg : Tg X N sc
  kind : sc.kind = .function
  po : PassesOwn (model X.prog X.w) X.A X.env X.xe
  exc : ∀ x ∈ S.excs, ExcF X.K X.mg x
theorem outIO_ok {IO is : List Nat} (h : outIO IO is = true) : ∀ i ∈ is, i ∉ IO := fun i hi => of_decide_eq_true (List.all_eq_true.mp h i hi)
mutual
theorem chkS_ok : ∀ (s : Sm) {X : Cx} {W : WX} {C : Cfg} {S : Sig} {N : List Str} {sc : Scope} {k : Nat} {IO : List Nat} (h : Hst X W C S N sc k) (x : Stmt), chkS S N sc IO s x = true → VS X W IO x (evS C s)
  | .asg p e, X, W, C, S, N, sc, k, IO, h, x, q => by
    unfold chkS at q
    split at q
    · rename_i tg v pos
      simp only [Bool.and_eq_true, decide_eq_true_eq] at q
      obtain ⟨⟨⟨⟨⟨q1, q2⟩, q3⟩, q4⟩, q5⟩, q6⟩ := q
      rw [evS]
      have sw := parT_ok h.hy.esc h.kind q5
      split at q6
      · rename_i e6
        exact vs_asg (chkE_ok e h.hy v q1).1 (chkP_ok h.tg p tg q2) (outIO_ok q4) (swT_ok h.hy.esc h.kind e6) sw q3
      · rename_i e6
        have sw2 := fun l => swT_ok (l := l) h.hy.esc h.kind e6
        simp only [Bool.and_eq_true] at q6
        cases e with
        | comp c elt own p' it cond =>
          obtain ⟨_, q6⟩ := q6
          split at q6
          · rename_i y py
            split at q6
            · rename_i i
              simp only [Bool.and_eq_true, decide_eq_true_eq] at q6
              obtain ⟨q7, q8⟩ := q6
              unfold chkE at q1
              split at q1
              · rename_i y2 tg2 iter ifs scope lpos
                simp only [Bool.and_eq_true] at q1
                obtain ⟨⟨⟨⟨⟨⟨⟨r1, r2⟩, r3⟩, r4⟩, r5⟩, r6⟩, r7⟩, r8⟩ := q1
                have b := blkOk_by r1
                rw [← h.hy.n, ← h.hy.esc] at b
                have := vs_asgLc (W := W) (IO := IO) (pos := pos) (lpos := lpos) (py := py) (c := c) h.hy.calm (by rw [h.hy.n]; exact h.hy.nd) b r2 (chkI_ok it h.hy tg2 iter r3) (chkC_ok cond h.hy scope ifs r4)
                  (fun s H C cl fp => chkP_ok (Tg.blk h.hy s H scope cl C fp) p' tg2 r5) (fun s H c cl fp => (chkE_ok elt (h.hy.blk s H scope cl c fp) y2 r6).1)
                  (fun i hi => by rw [h.hy.n, ownN_snd]; exact of_decide_eq_true (List.all_eq_true.mp r7 i hi)) (fun hw => cn_of (by rw [hw] at r8; simpa using r8))
                  (by rw [h.hy.n]; exact q7) (by rw [h.hy.esc]; exact q8) (sw2 pos.line) (outIO_ok q4 i (by simp [Pat.slots]))
                rw [h.hy.n, ownN_snd] at this
                rw [evE]
                exact this
              · cases q1
            · cases q6
          · cases q6
        | _ => cases q6.1
      · cases q6
    · cases q
  | .par is es, X, W, C, S, N, sc, k, IO, h, x, q => by
    unfold chkS at q
    split at q
    · split at q
      · rename_i y py z pz kt pt a b k2 p2 pos _ i j
        simp only [Bool.and_eq_true, decide_eq_true_eq] at q
        obtain ⟨⟨⟨⟨⟨⟨⟨⟨q1, q2⟩, q3⟩, q4⟩, q5⟩, q6⟩, q7⟩, q8⟩, q9⟩ := q
        rw [evS]
        exact vs_par2 h.hy.calm (by rw [h.hy.n]; exact h.hy.nd) (by rw [h.hy.n]; exact q1) (by rw [h.hy.n]; exact q2) q3 (by rw [h.hy.esc]; exact q4) (by rw [h.hy.esc]; exact q5) q6 (chkL_ok es h.hy _ q7) (outIO_ok q8 i (by simp)) (outIO_ok q8 j (by simp)) (parT_ok h.hy.esc h.kind q9)
      · cases q
    · split at q
      · rename_i y py z pz w pw kt pt a b c k2 p2 pos _ i j l
        simp only [Bool.and_eq_true, decide_eq_true_eq] at q
        obtain ⟨⟨⟨⟨⟨⟨⟨⟨⟨⟨⟨⟨q1, q2⟩, q3⟩, q4⟩, q5⟩, q6⟩, q7⟩, q8⟩, q9⟩, q10⟩, q11⟩, q12⟩, q13⟩ := q
        rw [evS]
        exact vs_par3 h.hy.calm (by rw [h.hy.n]; exact h.hy.nd) (by rw [h.hy.n]; exact q1) (by rw [h.hy.n]; exact q2) (by rw [h.hy.n]; exact q3) q4 q5 q6 (by rw [h.hy.esc]; exact q7) (by rw [h.hy.esc]; exact q8) (by rw [h.hy.esc]; exact q9) q10 (chkL_ok es h.hy _ q11) (outIO_ok q12) (parT_ok h.hy.esc h.kind q13)
      · cases q
    · cases q
  | .sub i ke e, X, W, C, S, N, sc, k, IO, h, x, q => by
    unfold chkS at q
    split at q
    · rename_i y p kx sp v pos
      simp only [Bool.and_eq_true, decide_eq_true_eq] at q
      obtain ⟨⟨⟨⟨⟨q1, q2⟩, q3⟩, q4⟩, q5⟩, q6⟩ := q
      rw [evS]
      exact vs_sub (var_ok h.hy q1) (chkE_ok e h.hy _ q4).1 (chkE_ok ke h.hy _ q3).1 q2 (swT_ok (l := pos.line) h.hy.esc h.kind q6) (parT_ok h.hy.esc h.kind q5)
    · cases q
  | .app i e, X, W, C, S, N, sc, k, IO, h, x, q => by
    unfold chkS at q
    split at q
    · simp only [Bool.and_eq_true, decide_eq_true_eq] at q
      obtain ⟨⟨⟨⟨rfl, q2⟩, q3⟩, q4⟩, q5⟩ := q
      rw [evS]
      exact vs_app (var_ok h.hy q2) (chkE_ok e h.hy _ q5).1 q3 q4
    · cases q
  | .ext i e, X, W, C, S, N, sc, k, IO, h, x, q => by
    unfold chkS at q
    split at q
    · simp only [Bool.and_eq_true, decide_eq_true_eq] at q
      obtain ⟨⟨⟨⟨rfl, q2⟩, q3⟩, q4⟩, q5⟩ := q
      rw [evS]
      exact vs_ext (var_ok h.hy q2) (chkE_ok e h.hy _ q5).1 q3 q4
    · cases q
  | .ex e, X, W, C, S, N, sc, k, IO, h, x, q => by
    unfold chkS at q
    split at q
    · simp only [Bool.and_eq_true] at q
      rw [evS]
      exact vs_ex (chkE_ok e h.hy _ q.2).1 q.1
    · cases q
  | .ret e, X, W, C, S, N, sc, k, IO, h, x, q => by
    unfold chkS at q
    split at q
    · rw [evS]
      exact vs_ret (chkE_ok e h.hy _ q).1
    · cases q
  | .retN, X, W, C, S, N, sc, k, IO, h, x, q => by
    unfold chkS at q
    split at q
    · rw [evS]; exact vs_retN
    · cases q
  | .iff t a b, X, W, C, S, N, sc, k, IO, h, x, q => by
    unfold chkS at q
    split at q
    · simp only [Bool.and_eq_true] at q
      rw [evS]
      exact vs_if (chkE_ok t h.hy _ q.1.1).2.1 (chkB_ok a h _ q.1.2) (chkB_ok b h _ q.2)
    · cases q
  | .for_ p it body, X, W, C, S, N, sc, k, IO, h, x, q => by
    unfold chkS at q
    split at q
    · simp only [Bool.and_eq_true] at q
      obtain ⟨⟨⟨⟨⟨q1, q2⟩, q3⟩, q4⟩, q5⟩, q6⟩ := q
      rw [evS]
      exact vs_for h.po h.hy.calm (chkI_ok it h.hy _ _ q1) (chkP_ok h.tg p _ q2) (chkB_ok body h _ q6) (outIO_ok q4) (fun hw => cn_of (by rw [hw] at q5; simpa using q5)) q3
    · cases q
  | .whl t body, X, W, C, S, N, sc, k, IO, h, x, q => by
    unfold chkS at q
    split at q
    · simp only [Bool.and_eq_true] at q
      rw [evS]
      exact vs_while h.po (chkE_ok t h.hy _ q.1).2.1 (chkB_ok body h _ q.2)
    · cases q
  | .rse c m, X, W, C, S, N, sc, k, IO, h, x, q => by
    unfold chkS at q
    split at q
    · simp only [Bool.and_eq_true, decide_eq_true_eq] at q
      obtain ⟨⟨⟨rfl, q2⟩, q3⟩, q4⟩ := q
      rw [evS]
      obtain ⟨A, bmB, B, newId, initId, F, e1, e2, e3, e4, e5⟩ := h.exc c q2
      exact vs_raise h.hy.calm h.hy.tk F e1 e2 e3 (raises_own e4 e5) (gl_ok h.hy q3) (plainN_ok q4).1
    · cases q
  | .pss, X, W, C, S, N, sc, k, IO, h, x, q => by
    unfold chkS at q
    split at q
    · rw [evS]; exact vs_pass
    · cases q
  | .brk, X, W, C, S, N, sc, k, IO, h, x, q => by
    unfold chkS at q
    split at q
    · rw [evS]; exact vs_brk
    · cases q
  | .cnt, X, W, C, S, N, sc, k, IO, h, x, q => by
    unfold chkS at q
    split at q
    · rw [evS]; exact vs_cnt
    · cases q
theorem chkB_ok : ∀ (s : Sms) {X : Cx} {W : WX} {C : Cfg} {S : Sig} {N : List Str} {sc : Scope} {k : Nat} {IO : List Nat} (h : Hst X W C S N sc k) (xs : List Stmt), chkB S N sc IO s xs = true → VB X W IO xs (evB C s)
  | .nil, X, W, C, S, N, sc, k, IO, h, xs, q => by
    unfold chkB at q
    rw [evB, List.isEmpty_iff.mp q]
    exact vb_nil
  | .cons s r, X, W, C, S, N, sc, k, IO, h, xs, q => by
    unfold chkB at q
    split at q
    · simp only [Bool.and_eq_true] at q
      rw [evB]
      exact vb_cons (chkS_ok s h _ q.1) (chkB_ok r h _ q.2)
    · cases q
end
end Py

set_option Elab.async false
set_option linter.all false
set_option maxRecDepth 100000
set_option maxHeartbeats 4000000
/-! PyO: defs, all together. -/
namespace Py
open PySem PySem.Spec PyProof.Rows L2
structure Df where
  name : Str
  st : Stmt
  N : List Str
  ps : List Str
  fd : Fd
def ioFrom : Nat → List Bool → List Nat
  | _, [] => []
  | n, true :: r => n :: ioFrom (n + 1) r
  | n, false :: r => ioFrom (n + 1) r
theorem ioFrom_mem : ∀ (bs : List Bool) (n i : Nat), bs[i]? = some true → n + i ∈ ioFrom n bs
  | [], n, i, h => by simp at h
  | true :: r, n, 0, h => by unfold ioFrom; simp
  | false :: r, n, 0, h => by simp at h
  | true :: r, n, i + 1, h => by
    unfold ioFrom
    have := ioFrom_mem r (n + 1) i (by simpa using h)
    rw [show n + (i + 1) = n + 1 + i by omega]
    exact List.mem_cons_of_mem _ this
  | false :: r, n, i + 1, h => by
    unfold ioFrom
    have := ioFrom_mem r (n + 1) i (by simpa using h)
    rw [show n + (i + 1) = n + 1 + i by omega]
    exact this
def scOk (N P : List Str) (sc : Scope) : Bool :=
  (match sc.kind with | .function => true | _ => false) && !sc.isCoroutine && !sc.isGenerator && decide N.Nodup && decide (N.take P.length = P) && P.all (fun x => decide (sc.names.lookup x = some .local) || decide (sc.names.lookup x = some .cell)) && sc.names.all (fun y => match y.2 with | .free => false | _ => true)
theorem scOk_ok {N P : List Str} {sc : Scope} (h : scOk N P sc = true) : FnScope N P sc := by
  unfold scOk at h
  simp only [Bool.and_eq_true, Bool.not_eq_true', decide_eq_true_eq, List.all_eq_true, Bool.or_eq_true] at h
  obtain ⟨⟨⟨⟨⟨⟨h1, h2⟩, h3⟩, h4⟩, h5⟩, h6⟩, h7⟩ := h
  refine ⟨?_, h2, h3, h4, h5, h6, fun y hy e => ?_⟩
  · split at h1
    · assumption
    · cases h1
  · have := h7 y hy
    rw [e] at this
    cases this
def Df.ok (S : Sig) (d : Df) : Bool := scOk d.N d.ps (defScope d.st) && chkB S d.N (defScope d.st) (ioFrom 0 d.fd.io) d.fd.body (defBody d.st) && decide (d.fd.io.length = d.ps.length) && decide (d.N.length = d.ps.length + d.fd.more)
section
variable {K : PySem.W.Frag} {mg : Str → Option Value} {H : Hp} {Z : Addr → Prop}
theorem rsl_none : ∀ (m : Nat), RSl K mg H Z (List.replicate m none) (List.replicate m none) []
  | 0 => .nil
  | m + 1 => .dead (rsl_none m)
theorem RVs.start : ∀ {args : List Val} {vs : List V} {fp : List Addr} (m : Nat), RVs K mg H Z args vs fp → RSl K mg H Z (args.map some ++ List.replicate m none) (vs.map some ++ List.replicate m none) fp
  | _, _, _, m, .nil => rsl_none m
  | _, _, _, m, .cons h r => .live h (RVs.start m r)
theorem outs_ok : ∀ {bs : List Bool} {σ : Fr} {τ : L2.St} {g : List Addr} {ios : List Val} {vs : List V}, RSl K mg H Z σ τ g → outs bs σ = some ios → vs.length = bs.length → (∀ (i : Nat), bs[i]? = some true → τ[i]? = (vs[i]?).map some) → ∃ g', RVs K mg H Z ios (pick bs vs) g' ∧ Sb g' g
  | [], σ, τ, g, ios, vs, r, e, hl, hk => by
    unfold outs at e
    cases e
    obtain rfl : vs = [] := List.eq_nil_of_length_eq_zero hl
    exact ⟨[], .nil, fun z => by simp⟩
  | true :: bs, _, _, _, ios, v :: vs, .live (d := d) (o := o) (v := w) (f := f) (g := g) (σ := σ) (τ := τ) h r, e, hl, hk => by
    unfold outs at e
    cases e1 : outs bs σ with
    | none => rw [e1] at e; cases e
    | some is =>
      rw [e1] at e
      cases e
      obtain ⟨g', a, b⟩ := outs_ok (vs := vs) r e1 (Nat.succ.inj hl) fun i hi => by simpa using hk (i + 1) (by simpa using hi)
      have := hk 0 rfl
      simp at this
      subst this
      exact ⟨f ++ g', .cons h a, (Sb.refl f).app b⟩
  | false :: bs, _, _, _, ios, v :: vs, .live (f := f) (g := g) (σ := σ) (τ := τ) h r, e, hl, hk => by
    unfold outs at e
    obtain ⟨g', a, b⟩ := outs_ok (vs := vs) r e (Nat.succ.inj hl) fun i hi => by simpa using hk (i + 1) (by simpa using hi)
    refine ⟨g', a, b.trans fun z => ?_⟩
    rw [List.count_append]
    omega
  | false :: bs, _, _, _, ios, v :: vs, .dead (σ := σ) (τ := τ) r, e, hl, hk => by
    unfold outs at e
    obtain ⟨g', a, b⟩ := outs_ok (vs := vs) r e (Nat.succ.inj hl) fun i hi => by simpa using hk (i + 1) (by simpa using hi)
    exact ⟨g', a, b⟩
  | true :: bs, _, _, _, ios, _, .dead r, e, _, _ => by unfold outs at e; cases e
  | true :: bs, _, _, _, ios, _, .nil, e, _, _ => by unfold outs at e; cases e
  | false :: bs, _, _, _, ios, _, .nil, e, _, _ => by unfold outs at e; cases e
  | _ :: _, _, _, _, _, [], _, _, hl, _ => by cases hl
end
section
variable {P : Program} {w : World} {K : PySem.W.Frag} {mg : Str → Option Value} {base : Heap}
/-- one def, by its body -/
theorem fn_step {d : Df} {S : Sig} {C : Cfg} {k : Nat} {f : Addr} {fdv : FuncData} (F : Fun K d.name d.name d.st f fdv) (chk : d.ok S = true)
    (blt : ∀ x ∈ S.blts, mg x = none) (exc : ∀ x ∈ S.excs, ExcF K mg x)
    (fns : ∀ x ∈ S.fns, ∃ f fd ps io, FnOk P w K mg base (L2N.CX P w) k f fd ps (spF K mg io (C.cl x)) ∧ mg x = some (.ref f) ∧ PySem.W.keepIn K (.ref f) = true ∧ Binds K fd ps [] ∧ C.io x = some io)
    (gcs : ∀ x d, C.gc x = some d → ∃ v u, mg x = some u ∧ RelV v u ∧ ∀ H Z, FD K mg H Z v d) :
    FnOk P w K mg base (L2N.CX P w) (k + 1) f fdv d.ps (spF K mg d.fd.io fun args => if args.length = d.fd.io.length then finish d.fd.io (evB C d.fd.body (args.map some ++ List.replicate d.fd.more none)) else .bad) := by
  unfold Df.ok at chk
  simp only [Bool.and_eq_true, decide_eq_true_eq] at chk
  obtain ⟨⟨⟨c1, c2⟩, c3⟩, c4⟩ := chk
  have S1 := scOk_ok c1
  obtain ⟨oc, od, kV, doc, pm, an, cdv, ct, osl, rfl, lk, hcd⟩ := F.ex
  refine fn_of lk hcd S1 (fun vs H Q E h => ?_) fun A outer s H vs Q E hr hsp => ?_
  · obtain ⟨args, Z, fp, rv, _, hl, _⟩ := h
    rw [rv.length, hl, c3]
  · obtain ⟨args, Z, fp, rv, ok, hl, post⟩ := hsp
    dsimp only at post
    rw [if_pos hl] at post
    refine ⟨_, pssW _ _, ?_⟩
    generalize hX : cxOf (L2N.CX P w) P w K mg base d.N d.name (defScope d.st) f cdv A outer s H E = X
    have hst : Hst X (fun cls dd _ H => E cls dd H) C S d.N (defScope d.st) k := by
      subst hX
      refine ⟨⟨rfl, S1.nd, rfl, rfl, ?_, hr, blt, fns, gcs⟩, ⟨rfl, S1.nd, rfl, fun x hx => ⟨locN_ok hx, .inl rfl⟩⟩, S1.kind, ?_, exc⟩
      · exact L2N.takes_of (X := cxOf (L2N.CX P w) P w K mg base d.N d.name (defScope d.st) f cdv A outer s H E) rfl rfl rfl rfl
      · exact passes_of (X := cxOf (L2N.CX P w) P w K mg base d.N d.name (defScope d.st) f cdv A outer s H E) rfl
    have vb := chkB_ok d.fd.body hst _ c2
    have eK : X.K = K := by subst hX; rfl
    have eg : X.mg = mg := by subst hX; rfl
    have e1 : d.N.length - vs.length = d.fd.more := by
      rw [rv.length, hl, c3, c4]
      omega
    have rs0 : RSl X.K X.mg H Z (args.map some ++ List.replicate d.fd.more none) (L2.start d.N vs) fp := by
      rw [eK, eg]
      unfold L2.start
      rw [e1]
      exact rv.start _
    have hvl : vs.length = d.fd.io.length := by rw [rv.length, hl]
    have out : ∀ {τ' : L2.St} {σ' : Fr} {H' : Hp} {Z' : Addr → Prop} {g : List Addr} {ios : List Val}, KpI (ioFrom 0 d.fd.io) (L2.start d.N vs) τ' → RSl X.K X.mg H' Z' σ' τ' g → outs d.fd.io σ' = some ios → ∃ g', RVs K mg H' Z' ios (pick d.fd.io vs) g' ∧ Sb g' g := by
      intro τ' σ' H' Z' g ios kp r e
      rw [eK, eg] at r
      refine outs_ok r e hvl fun i hi => ?_
      have hm := ioFrom_mem d.fd.io 0 i hi
      rw [Nat.zero_add] at hm
      rw [kp.2 i hm]
      have hlt : i < vs.length := by
        rw [hvl]
        exact (List.getElem?_eq_some_iff.mp hi).1
      unfold L2.start
      rw [List.getElem?_append_left (by rw [List.length_map]; exact hlt), List.getElem?_map]
    refine vb (L2.start d.N vs) H Z fp _ _ rs0 ok ?_
    generalize evB C d.fd.body (args.map some ++ List.replicate d.fd.more none) = o at post ⊢
    cases o with
    | bad => exact post.elim
    | exn c σ' =>
      unfold finish at post
      dsimp only at post
      intro τ' H' Z' g kp s1 k1 r C' hc
      cases eo : outs d.fd.io σ' with
      | none => rw [eo] at post; exact post.elim
      | some ios =>
        rw [eo] at post
        obtain ⟨g', a, b⟩ := out kp r eo
        rw [eg] at hc
        exact post H' Z' g' (s1.sb b) (k1.sb b) a C' hc
    | ok fl σ' =>
      cases fl with
      | next =>
        unfold finish at post
        dsimp only at post
        intro τ' H' Z' g kp s1 k1 r
        cases eo : outs d.fd.io σ' with
        | none => rw [eo] at post; exact post.elim
        | some ios =>
          rw [eo] at post
          obtain ⟨g', a, b⟩ := out kp r eo
          exact post .non H' Z' [] g' (s1.sb b) (k1.sb b) (R.of_fd .non) a
      | ret v =>
        unfold finish at post
        dsimp only at post
        intro wv τ' H' Z' f' g kp s1 k1 ra r
        cases eo : outs d.fd.io σ' with
        | none => rw [eo] at post; exact post.elim
        | some ios =>
          rw [eo] at post
          obtain ⟨g', a, b⟩ := out kp r eo
          rw [eK, eg] at ra
          exact post wv H' Z' f' g' (s1.sb ((Sb.refl f').app b)) (k1.sb ((Sb.refl f').app b)) ra a
      | brk => exact post.elim
      | cnt => exact post.elim
/-- all defs of the module, by the number of calls -/
theorem all_fn {Pr : Prg} {S : Sig} {tab : List Df} (hS : ∀ x ∈ S.fns, ∃ d ∈ tab, d.name = x) (hT : ∀ d ∈ tab, Pr.fn d.name = some d.fd) (hc : ∀ d ∈ tab, d.ok S = true)
    (hF : ∀ d ∈ tab, ∃ f fdv, Fun K d.name d.name d.st f fdv ∧ Binds K fdv d.ps [] ∧ mg d.name = some (.ref f))
    (blt : ∀ x ∈ S.blts, mg x = none) (exc : ∀ x ∈ S.excs, ExcF K mg x) (gcs : ∀ x d, Pr.gc x = some d → ∃ v u, mg x = some u ∧ RelV v u ∧ ∀ H Z, FD K mg H Z v d) :
    ∀ (n : Nat) (d : Df), d ∈ tab → ∀ f fdv, Fun K d.name d.name d.st f fdv → FnOk P w K mg base (L2N.CX P w) n f fdv d.ps (spF K mg d.fd.io (callF Pr n d.name))
  | 0, d, hd, f, fdv, F => by
    have no : ∀ vs H Q E, ¬ spF K mg d.fd.io (callF Pr 0 d.name) vs H Q E := fun vs H Q E h => by
      obtain ⟨args, Z, fp, _, _, _, z⟩ := h
      exact z
    exact ⟨fun vs H Q E h => absurd h (no vs H Q E), fun A outer s H args us vs Q E _ _ _ _ h => absurd h (no vs H Q E)⟩
  | n + 1, d, hd, f, fdv, F => by
    have st := fn_step (P := P) (w := w) (base := base) (C := Pr.cfg (callF Pr n)) (k := n) F (hc d hd) blt exc (fun x hx => by
      obtain ⟨d', hd', e⟩ := hS x hx
      subst e
      obtain ⟨f', fdv', F', b', m'⟩ := hF d' hd'
      exact ⟨f', fdv', d'.ps, d'.fd.io, all_fn hS hT hc hF blt exc gcs n d' hd' f' fdv' F', m', F'.kp, b', by show (Pr.fn d'.name).map _ = _; rw [hT d' hd']; rfl⟩) gcs
    have e : callF Pr (n + 1) d.name = fun args => if args.length = d.fd.io.length then finish d.fd.io (evB (Pr.cfg (callF Pr n)) d.fd.body (args.map some ++ List.replicate d.fd.more none)) else .bad := by
      funext args
      rw [callF, hT d hd]
    rw [e]
    exact st
end
end Py

set_option Elab.async false
set_option linter.all false
set_option maxRecDepth 100000
set_option maxHeartbeats 4000000
/-! PyP: the end: the law's def at the top. -/
namespace Py
open PySem PySem.Spec PyProof.Rows L2
theorem gc_lookup : ∀ {l : List (Str × D)} {x : Str} {d : D}, l.lookup x = some d → (x, d) ∈ l
  | [], _, _, h => by cases h
  | (y, e) :: r, x, d, h => by
    rw [List.lookup_cons] at h
    cases q : x == y with
    | true =>
      rw [q] at h
      cases h
      rw [eq_of_beq q]
      exact List.mem_cons_self
    | false =>
      rw [q] at h
      exact List.mem_cons_of_mem _ (gc_lookup h)
theorem gc_of {K : PySem.W.Frag} {mg : Str → Option Value} {l : List (Str × D)} (h : ∀ p ∈ l, ∃ i t, p.2 = .int i ∧ mg p.1 = some (.int i t)) : ∀ x d, l.lookup x = some d → ∃ v u, mg x = some u ∧ RelV v u ∧ ∀ H Z, FD K mg H Z v d := fun x d e => by
  obtain ⟨i, t, e1, e2⟩ := h _ (gc_lookup e)
  have e1 : d = .int i := e1
  subst e1
  exact ⟨.int i, .int i t, e2, ⟨t, rfl⟩, fun _ _ => .int i⟩
/-- what law(script) promises -/
def spL (K : PySem.W.Frag) (n : Nat) : Sp := fun vs H Q _ => ∃ (a : Addr) (ns : List Int), vs = [.ref a] ∧ SqL K H a (ns.map V.int) ∧ Only H ∧ ns.length ≤ n ∧ ∀ H', Q (.bl true) H'
theorem sf_of {K : PySem.W.Frag} {H : Hp} {a : Addr} {ns : List Int} (h : SqL K H a (ns.map V.int)) (o : Only H) : SF K H a ns := by
  rcases h with (h | h) | h
  · rcases o a with q | ⟨ob, xs, q⟩
    · rw [q] at h; cases h
    · rw [q] at h; cases h
  · exact .inl h
  · exact .inr h
theorem spL_imp {K : PySem.W.Frag} {mg : Str → Option Value} {n : Nat} {cl : List Val → COut} (m : ∀ ns : List Int, ns.length ≤ n → ∃ o, cl [(.scr ns, .fz)] = .ret (.bl true, o) []) : ∀ vs H Q E, spL K n vs H Q E → spF K mg [false] cl vs H Q E := by
  rintro vs H Q E ⟨a, ns, rfl, hs, ho, hl, q⟩
  obtain ⟨o, e⟩ := m ns hl
  refine ⟨[(.scr ns, .fz)], fun _ => False, [], RVs.cons (f := []) (R.of_fd (.scr (sf_of hs ho))) .nil, ⟨List.nodup_nil, fun a h => (List.not_mem_nil h).elim, fun a h => (List.not_mem_nil h).elim, fun a h => h.elim⟩, rfl, ?_⟩
  rw [e]
  intro v H' Z' f g _ _ ra _
  have : v = .bl true := R.bl ra
  subst this
  exact q H'
theorem no_exc {P : Program} {w : World} {H : Hp} {s : Shared} {e : Value} {s' : Shared} (h : L2N.CX P w [] H s (fun _ _ _ => False) e s') : False := by
  obtain ⟨_, _, _, _, _, _, _, _, _, _, _, _, z⟩ := h
  exact z
theorem walk {l : PySem.W.OpenLaw} {n k : Nat} {q : Program} {loose : List Str} {XP : (Str → Option Value) → Heap → Prop} {YP : World → Heap → Prop} {d : DefRec} {K : Params → PySem.W.Frag} (hn : l.most = some n) (hn2 : n ≤ sizeLine) (hdf : d.params.defaults = []) (hr : Room k callerA)
    (hY : ∀ (w : World) (h : Heap), YP w h → (K w.params).In h)
    (F : ∀ (w : World) (mg : Str → Option Value) (fa : Addr) (h : Heap), (K w.params).In h → h.Ns mainGlobals mg → mg d.name = some (.ref fa) →
      ∃ fd : FuncData, (∀ (s : Shared) (u : Value), BindsTo s fd ⟨[u], []⟩ [("script", u)]) ∧ ∀ base : Heap, (K w.params).In base → base.Ns mainGlobals mg → FnOk l.prog w (K w.params) mg base (L2N.CX l.prog w) k fa fd ["script"] (spL (K w.params) n)) :
    PySem.W.WalkO q loose XP YP l.row.toRowW d [] (fun f vs => PySem.call f vs) :=
  L2.walk_of (n := n) (k := k) (x := "script") (CX := fun w => L2N.CX l.prog w) (sp := fun w => spL (K w.params) n) hn hn2 hdf hr hY F (fun _ _ a ns hl ho hS => ⟨a, ns, rfl, hS, ho, hl, fun _ => rfl⟩) fun _ _ _ _ _ z => no_exc z
theorem excF_mk {K : PySem.W.Frag} {mg : Str → Option Value} {x : Str} {C : Addr} (m : mg x = some (.ref C)) (q : PySem.W.excIn K C [.type "ValueError", .type "Exception", .type "BaseException", .type "object"] "ValueError.__new__" = true) (k : PySem.W.keepIn K (.ref C) = true)
    (b : PySem.W.subIn K (.ref C) (.type "BaseException") = some true) (t : PySem.W.typeIn K (.ref C) = some (.type "type")) : ExcF K mg x := ⟨C, _, _, _, _, PySem.F.excBase_ValueError, q, m, k, b, t⟩
end Py

set_option Elab.async false
set_option linter.all false
set_option maxRecDepth 100000
/-! MR: runs of the evaluator, continuation by continuation. -/
namespace Py
open PySem
/-- what stands behind is left alone: it is bound to its place -/
@[reducible] def KP {β γ : Type} (_ : β) (_ : γ) : Type := Unit
def Run {α : Type} (o : Out α) (Q : α → Fr → Prop) (E : Str → Fr → Prop) (_ : KP Q E := ()) : Prop := match o with
  | .ok a σ => Q a σ
  | .exn c σ => E c σ
  | .bad => False
def Ret (o : COut) (Q : Val → List Val → Prop) (E : Str → List Val → Prop) (_ : KP Q E := ()) : Prop := match o with
  | .ret v io => Q v io
  | .exn c io => E c io
  | .bad => False
section
variable {α β : Type} {Q : α → Fr → Prop} {E : Str → Fr → Prop} {σ : Fr}
theorem run_ok {a : α} : Run (.ok a σ) Q E = Q a σ := rfl
theorem run_exn {c : Str} : Run (.exn c σ) Q E = E c σ := rfl
theorem run_bad : Run (.bad : Out α) Q E = False := rfl
theorem run_bind {m : M α} {f : α → M β} {Q : β → Fr → Prop} : Run (m.bind f σ) Q E = Run (m σ) (fun a σ' => Run (f a σ') Q E) E := by
  unfold M.bind Run
  cases m σ <;> rfl
theorem run_pure {a : α} : Run (M.pure a σ) Q E = Q a σ := rfl
theorem run_mbad : Run ((M.bad : M α) σ) Q E = False := rfl
theorem run_of_some {a : α} : Run (M.of (some a) σ) Q E = Q a σ := rfl
theorem run_of_none : Run ((M.of none : M α) σ) Q E = False := rfl
theorem run_of_ite {c : Prop} [Decidable c] {a b : Option α} : Run (M.of (if c then a else b) σ) Q E = if c then Run (M.of a σ) Q E else Run (M.of b σ) Q E := by split <;> rfl
theorem run_ite {c : Prop} [Decidable c] {m m' : M α} : Run ((if c then m else m') σ) Q E = if c then Run (m σ) Q E else Run (m' σ) Q E := by split <;> rfl
theorem run_iteo {c : Prop} [Decidable c] {m m' : Out α} : Run (if c then m else m') Q E = if c then Run m Q E else Run m' Q E := by split <;> rfl
theorem ret_ret {v : Val} {io : List Val} {Q : Val → List Val → Prop} {E : Str → List Val → Prop} : Ret (.ret v io) Q E = Q v io := rfl
theorem ret_exn {c : Str} {io : List Val} {Q : Val → List Val → Prop} {E : Str → List Val → Prop} : Ret (.exn c io) Q E = E c io := rfl
theorem ret_bad {Q : Val → List Val → Prop} {E : Str → List Val → Prop} : Ret .bad Q E = False := rfl
theorem Run.mono {o : Out α} {Q' : α → Fr → Prop} {E' : Str → Fr → Prop} (h : Run o Q E) (q : ∀ a σ, Q a σ → Q' a σ) (e : ∀ c σ, E c σ → E' c σ) : Run o Q' E' := by
  cases o with
  | ok a σ => exact q a σ h
  | exn c σ => exact e c σ h
  | bad => exact h
theorem Ret.mono {o : COut} {Q Q' : Val → List Val → Prop} {E E' : Str → List Val → Prop} (h : Ret o Q E) (q : ∀ v io, Q v io → Q' v io) (e : ∀ c io, E c io → E' c io) : Ret o Q' E' := by
  cases o with
  | ret v io => exact q v io h
  | exn c io => exact e c io h
  | bad => exact h
theorem Ret.eq {o : COut} {w : Val} {ios : List Val} (h : Ret o (fun v io => v = w ∧ io = ios) fun _ _ => False) : o = .ret w ios := by
  cases o with
  | ret v io => obtain ⟨rfl, rfl⟩ := h; rfl
  | exn c io => exact h.elim
  | bad => exact h.elim
end
/-- what a def hands back at its end -/
def fin (io : List Bool) (Q : Val → List Val → Prop) (E : Str → List Val → Prop) : Flow → Fr → Prop
  | .next, σ => (match outs io σ with | some vs => Q (.non, .fz) vs | none => False)
  | .ret v, σ => (match outs io σ with | some vs => Q v vs | none => False)
  | _, _ => False
def finX (io : List Bool) (E : Str → List Val → Prop) (c : Str) (σ : Fr) : Prop := match outs io σ with | some vs => E c vs | none => False
theorem ret_finish {io : List Bool} {o : Out Flow} {Q : Val → List Val → Prop} {E : Str → List Val → Prop} : Ret (finish io o) Q E = Run o (fin io Q E) (finX io E) := by
  cases o with
  | bad => rfl
  | exn c σ =>
    unfold finish finX Run
    dsimp only
    cases outs io σ <;> rfl
  | ok fl σ =>
    cases fl <;> (unfold finish Run fin; dsimp only) <;> first | rfl | (cases outs io σ <;> rfl)
theorem call_run {P : Prg} {f : Str} {fd : Fd} {n : Nat} {vs : List Val} {Q : Val → List Val → Prop} {E : Str → List Val → Prop} (h : P.fn f = some fd) (hl : vs.length = fd.io.length) (r : Run (evB (P.cfg (callF P n)) fd.body (vs.map some ++ List.replicate fd.more none)) (fin fd.io Q E) (finX fd.io E)) :
    Ret (callF P (n + 1) f vs) Q E := by
  rw [callF, h]
  dsimp only
  rw [if_pos hl, ret_finish]
  exact r
section
variable {E : Str → Fr → Prop} {σ : Fr} {Q : Val → Fr → Prop}
theorem run_callM {C : Cfg} {f : Str} {as : List AV} {bs : List Bool} {vs : List Val} {σ1 : Fr} (h : C.io f = some bs) (hp : passA bs as σ = .ok vs σ1) :
    Run (callM C f as σ) Q E = Ret (C.cl f vs) (fun v io => match backA bs as io σ1 with | some σ2 => Q v σ2 | none => False) fun c io => match backA bs as io σ1 with | some σ2 => E c σ2 | none => False := by
  unfold callM
  rw [h]
  dsimp only
  rw [hp]
  dsimp only
  cases C.cl f vs with
  | bad => rfl
  | ret v io => dsimp only; unfold Ret; dsimp only; cases backA bs as io σ1 <;> rfl
  | exn c io => dsimp only; unfold Ret; dsimp only; cases backA bs as io σ1 <;> rfl
theorem run_callP {P : Prg} {n : Nat} {f : Str} {fd : Fd} {as : List AV} (h : P.fn f = some fd) :
    Run (callM (P.cfg (callF P n)) f as σ) Q E = Run (passA fd.io as σ) (fun vs σ1 => Ret (callF P n f vs) (fun v io => match backA fd.io as io σ1 with | some σ2 => Q v σ2 | none => False) fun c io => match backA fd.io as io σ1 with | some σ2 => E c σ2 | none => False) E := by
  have hio : (P.cfg (callF P n)).io f = some fd.io := by
    show (P.fn f).map _ = _
    rw [h]; rfl
  cases e : passA fd.io as σ with
  | ok vs σ1 => exact run_callM hio e
  | exn c σ1 =>
    unfold callM
    rw [hio]
    dsimp only
    rw [e]
    rfl
  | bad =>
    unfold callM
    rw [hio]
    dsimp only
    rw [e]
    rfl
end
end Py

set_option Elab.async false
set_option linter.all false
set_option maxRecDepth 100000
/-! MR2: runs, rule by rule, for simp: the first argument alone is looked into. -/
namespace Py
open PySem
def Got {α : Type} (o : Option α) (Q : α → Prop) (_ : KP Q Q := ()) : Prop := match o with
  | some a => Q a
  | none => False
section
variable {α β : Type}
theorem got_some {a : α} {Q : α → Prop} : Got (some a) Q = Q a := rfl
theorem got_none {Q : α → Prop} : Got (none : Option α) Q = False := rfl
theorem got_map {o : Option α} {f : α → β} {Q : β → Prop} : Got (o.map f) Q = Got o fun a => Q (f a) := by cases o <;> rfl
theorem got_ite {c : Prop} [Decidable c] {a b : Option α} {Q : α → Prop} : Got (if c then a else b) Q = if c then Got a Q else Got b Q := by split <;> rfl
theorem run_cong {o : Out α} {Q Q' : α → Fr → Prop} {E : Str → Fr → Prop} (h : ∀ a σ, Q a σ = Q' a σ) : Run o Q E = Run o Q' E := by
  cases o with
  | ok a σ => exact h a σ
  | _ => rfl
theorem ret_cong {o : COut} {Q Q' : Val → List Val → Prop} {E E' : Str → List Val → Prop} (h : ∀ a σ, Q a σ = Q' a σ) (h' : ∀ a σ, E a σ = E' a σ) : Ret o Q E = Ret o Q' E' := by
  cases o with
  | ret a σ => exact h a σ
  | exn a σ => exact h' a σ
  | bad => rfl
theorem run_of {o : Option α} {σ : Fr} {Q : α → Fr → Prop} {E : Str → Fr → Prop} : Run (M.of o σ) Q E = Got o fun a => Q a σ := by cases o <;> rfl
end
theorem run_callG {P : Prg} {n : Nat} {f : Str} {fd : Fd} {as : List AV} {σ : Fr} {Q : Val → Fr → Prop} {E : Str → Fr → Prop} (h : P.fn f = some fd) :
    Run (callM (P.cfg (callF P n)) f as σ) Q E = Run (passA fd.io as σ) (fun vs σ1 => Ret (callF P n f vs) (fun v io => Got (backA fd.io as io σ1) fun σ2 => Q v σ2) fun c io => Got (backA fd.io as io σ1) fun σ2 => E c σ2) E := by
  rw [run_callP h]
  refine run_cong fun vs σ1 => ret_cong (fun v io => ?_) fun c io => ?_
  · skip
    cases backA fd.io as io σ1 <;> rfl
  · skip
    cases backA fd.io as io σ1 <;> rfl
theorem fin_ret {io : List Bool} {Q : Val → List Val → Prop} {E : Str → List Val → Prop} {v : Val} {σ : Fr} : fin io Q E (.ret v) σ = Got (outs io σ) fun vs => Q v vs := by unfold fin; dsimp only; cases outs io σ <;> rfl
theorem fin_next {io : List Bool} {Q : Val → List Val → Prop} {E : Str → List Val → Prop} {σ : Fr} : fin io Q E .next σ = Got (outs io σ) fun vs => Q (.non, .fz) vs := by unfold fin; dsimp only; cases outs io σ <;> rfl
theorem finX_eq {io : List Bool} {E : Str → List Val → Prop} {c : Str} {σ : Fr} : finX io E c σ = Got (outs io σ) fun vs => E c vs := by unfold finX; cases outs io σ <;> rfl
def isVar : Ex → Bool
  | .var _ => true
  | _ => false
def kB (b : Val) (Q : Bool → Prop) : Prop := match b with
  | (.bl c, _) => Q c
  | _ => False
theorem kB_bl {c : Bool} {o : Own} {Q : Bool → Prop} : kB (.bl c, o) Q = Q c := rfl
theorem got_boolV {v : Val} {Q : Bool → Prop} : Got (boolV v) Q = kB v Q := by
  obtain ⟨d, o⟩ := v
  cases d <;> rfl
section
variable {C : Cfg} {σ : Fr} {E : Str → Fr → Prop} {Q : Val → Fr → Prop} {T : Bool → Fr → Prop} {L : List Val → Fr → Prop} {A : List AV → Fr → Prop}
theorem rE_cst {d : D} : Run (evE C (.cst d) σ) Q E = Q (d, .fz) σ := by rw [evE, run_pure]
theorem rE_glb {x : Str} : Run (evE C (.glb x) σ) Q E = Got (C.gc x) fun d => Q (d, .fz) σ := by rw [evE, run_of, got_map]
def gets (σ : Fr) (i : Nat) (Q : Val → Fr → Prop) : Val → Prop
  | (d, .fz) => Q (d, .fz) σ
  | (d, _) => Q (d, .fz) (σ.set i (some (d, .fz)))
theorem gets_fz {d : D} {i : Nat} : gets σ i Q (d, .fz) = Q (d, .fz) σ := rfl
theorem gets_un {d : D} {i : Nat} {c : Own} : gets σ i Q (d, .un c) = Q (d, .fz) (σ.set i (some (d, .fz))) := rfl
theorem gets_tu {d : D} {i : Nat} {c : Own} : gets σ i Q (d, .tu c) = Q (d, .fz) (σ.set i (some (d, .fz))) := rfl
def movs (σ : Fr) (i : Nat) (Q : Val → Fr → Prop) : Val → Prop
  | (d, .fz) => Q (d, .fz) σ
  | (d, o) => Q (d, o) (σ.set i none)
theorem movs_fz {d : D} {i : Nat} : movs σ i Q (d, .fz) = Q (d, .fz) σ := rfl
theorem movs_un {d : D} {i : Nat} {c : Own} : movs σ i Q (d, .un c) = Q (d, .un c) (σ.set i none) := rfl
theorem movs_tu {d : D} {i : Nat} {c : Own} : movs σ i Q (d, .tu c) = Q (d, .tu c) (σ.set i none) := rfl
theorem r_getV {i : Nat} : Run (getV i σ) Q E = Got (slot σ i) (gets σ i Q) := by
  unfold getV
  cases h : slot σ i with
  | none => rfl
  | some v =>
    obtain ⟨d, o⟩ := v
    cases o <;> rfl
theorem rE_var {i : Nat} : Run (evE C (.var i) σ) Q E = Got (slot σ i) (gets σ i Q) := by rw [evE, r_getV]
theorem rE_mov {i : Nat} : Run (evE C (.mov i) σ) Q E = Got (slot σ i) (movs σ i Q) := by
  rw [evE]
  unfold movV
  cases h : slot σ i with
  | none => rfl
  | some v =>
    obtain ⟨d, o⟩ := v
    cases o <;> rfl
theorem rE_tup {es : Exs} : Run (evE C (.tup es) σ) Q E = Run (evL C es σ) (fun vs σ' => vs.length ≤ big ∧ Q (tupV vs) σ') E := by
  rw [evE, run_bind]
  refine run_cong fun vs σ' => ?_
  rw [run_ite, run_pure, run_mbad]
  by_cases h : vs.length ≤ big <;> simp [h]
theorem rE_lst {c : Own} {es : Exs} : Run (evE C (.lst c es) σ) Q E = Run (evL C es σ) (fun vs σ' => vs.length ≤ big ∧ Got (lstV c vs) fun ds => Q (.lst ds, .un c) σ') E := by
  rw [evE, run_bind]
  refine run_cong fun vs σ' => ?_
  rw [run_of, got_ite, got_map, got_none]
  by_cases h : vs.length ≤ big <;> simp [h]
theorem rE_op {p : Prim} {es : Exs} : Run (evE C (.op p es) σ) Q E = Run (evA C es σ) (fun as σ' => Got (rds σ' as) fun ds => Got (p.run ds) fun v => Q v σ') E := by
  rw [evE, run_bind]
  refine run_cong fun as σ' => ?_
  cases rds σ' as with
  | none => rfl
  | some ds => exact run_of
theorem rE_ife {t a b : Ex} : Run (evE C (.ife t a b) σ) Q E = Run (evT C t σ) (fun c σ' => if c then Run (evE C a σ') Q E else Run (evE C b σ') Q E) E := by
  rw [evE, run_bind]
  refine run_cong fun c σ' => ?_
  rw [run_ite]
theorem rE_and {a b : Ex} : Run (evE C (.and_ a b) σ) Q E = Run (evE C a σ) (fun v σ' => kB v fun c => if c then Run (evE C b σ') Q E else Q (.bl false, .fz) σ') E := by
  rw [evE, run_bind]
  refine run_cong fun v σ' => ?_
  rw [← got_boolV]
  cases boolV v with
  | none => rfl
  | some c => cases c <;> rfl
theorem rE_or {a b : Ex} : Run (evE C (.or_ a b) σ) Q E = Run (evE C a σ) (fun v σ' => kB v fun c => if c then Q (.bl true, .fz) σ' else Run (evE C b σ') Q E) E := by
  rw [evE, run_bind]
  refine run_cong fun v σ' => ?_
  rw [← got_boolV]
  cases boolV v with
  | none => rfl
  | some c => cases c <;> rfl
theorem rE_not {a : Ex} : Run (evE C (.not_ a) σ) Q E = Run (evE C a σ) (fun v σ' => kB v fun c => Q (.bl (!c), .fz) σ') E := by
  rw [evE, run_bind]
  refine run_cong fun v σ' => ?_
  rw [← got_boolV]
  cases boolV v with
  | none => rfl
  | some c => cases c <;> rfl
theorem rE_chain {p q : Prim} {a b c : Ex} : Run (evE C (.chain p q a b c) σ) Q E = Run (evE C a σ) (fun x σ1 => Run (evE C b σ1) (fun y σ2 => Got (sv x) fun dx => Got (sv y) fun dy => Got (p.run [dx, dy]) fun r => kB r fun t => r.2 = .fz ∧ if t then Run (evE C c σ2) (fun z σ3 => Got (sv z) fun dz => Got (q.run [dy, dz]) fun v => Q v σ3) E else Q (.bl false, .fz) σ2) E) E := by
  rw [evE]
  unfold chainM
  rw [run_bind]
  refine run_cong fun x σ1 => ?_
  rw [run_bind]
  refine run_cong fun y σ2 => ?_
  cases sv x with
  | none => rfl
  | some dx =>
    cases sv y with
    | none => rfl
    | some dy =>
      dsimp only
      rw [got_some, got_some]
      cases p.run [dx, dy] with
      | none => rfl
      | some r =>
        obtain ⟨d, o⟩ := r
        rw [got_some]
        cases d with
        | bl t =>
          rw [kB_bl]
          cases o with
          | fz =>
            cases t with
            | true =>
              dsimp only
              rw [run_bind]
              simp only [if_true, true_and]
              refine run_cong fun z σ3 => ?_
              rw [run_of]
              cases sv z <;> rfl
            | false => simp; rfl
          | _ => cases t <;> (simp; exact id)
        | _ => rfl
theorem rE_call {f : Str} {es : Exs} : Run (evE C (.call f es) σ) Q E = Run (evA C es σ) (fun as σ' => Run (callM C f as σ') Q E) E := by rw [evE, run_bind]
theorem rE_mth {p : Prim} {o : Ex} {es : Exs} : Run (evE C (.mth p o es) σ) Q E = Run (opdM o (evE C o) σ) (fun a σ1 => Got (a.rd σ1) fun d => d.kind = p.kind ∧ Run (evA C es σ1) (fun as σ' => Got (rds σ' (a :: as)) fun ds => Got (p.run ds) fun v => Q v σ') E) E := by
  rw [evE]
  unfold mthM
  rw [run_bind]
  refine run_cong fun a σ1 => ?_
  cases a.rd σ1 with
  | none => rfl
  | some d =>
    dsimp only
    rw [got_some]
    by_cases h : d.kind = p.kind
    · simp only [h, if_true, true_and]
      rw [run_bind]
      refine run_cong fun as σ' => ?_
      cases rds σ' (a :: as) with
      | none => rfl
      | some ds => exact run_of
    · simp only [h, if_false, false_and]; rfl
theorem rE_comp {c : Own} {elt : Ex} {own : List Nat} {p : Pat} {it : Itr} {cond : Option_} : Run (evE C (.comp c elt own p it cond) σ) Q E = Run (evI C it σ) (fun ds σ1 => Run (compM (M.pure ds) (evC C cond) (evE C elt) c own p σ1) Q E) E := by
  rw [evE]
  unfold compM
  rw [run_bind]
  congr 1
theorem rE_dsp {ks : List Str} {vs : Exs} : Run (evE C (.dsp ks vs) σ) Q E = Run (evL C vs σ) (fun xs σ' => (ks.length = xs.length ∧ ks.length ≤ 15) ∧ Q (.dct (mergeD [] ((ks.map Sum.inr).zip (xs.map (·.1)))), .un .fz) σ') E := by
  rw [evE, run_bind]
  refine run_cong fun xs σ' => ?_
  rw [run_of, got_ite, got_some, got_none]
  by_cases h : ks.length = xs.length ∧ ks.length ≤ 15 <;> simp [h]
/-! operands -/
theorem rO_var {i : Nat} {m : M Val} {Q : AV → Fr → Prop} : Run (opdM (.var i) m σ) Q E = Got (slot σ i) fun _ => Q (.pl i) σ := by
  unfold opdM
  dsimp only
  cases slot σ i <;> rfl
theorem rO_val {e : Ex} {m : M Val} {Q : AV → Fr → Prop} (h : isVar e = false) : Run (opdM e m σ) Q E = Run (m σ) (fun v σ' => Q (.vl v) σ') E := by
  cases e <;> first | (cases h; done) | (unfold opdM; dsimp only; rw [run_bind]; rfl)
theorem rO_op (p : Prim) (es : Exs) {m : M Val} {Q : AV → Fr → Prop} : Run (opdM (.op p es) m σ) Q E = Run (m σ) (fun v σ' => Q (.vl v) σ') E := rO_val rfl
theorem rO_cst (d : D) {m : M Val} {Q : AV → Fr → Prop} : Run (opdM (.cst d) m σ) Q E = Run (m σ) (fun v σ' => Q (.vl v) σ') E := rO_val rfl
theorem rO_glb (x : Str) {m : M Val} {Q : AV → Fr → Prop} : Run (opdM (.glb x) m σ) Q E = Run (m σ) (fun v σ' => Q (.vl v) σ') E := rO_val rfl
theorem rO_mov (i : Nat) {m : M Val} {Q : AV → Fr → Prop} : Run (opdM (.mov i) m σ) Q E = Run (m σ) (fun v σ' => Q (.vl v) σ') E := rO_val rfl
theorem rO_tup (es : Exs) {m : M Val} {Q : AV → Fr → Prop} : Run (opdM (.tup es) m σ) Q E = Run (m σ) (fun v σ' => Q (.vl v) σ') E := rO_val rfl
theorem rO_lst (c : Own) (es : Exs) {m : M Val} {Q : AV → Fr → Prop} : Run (opdM (.lst c es) m σ) Q E = Run (m σ) (fun v σ' => Q (.vl v) σ') E := rO_val rfl
theorem rO_ife (t a b : Ex) {m : M Val} {Q : AV → Fr → Prop} : Run (opdM (.ife t a b) m σ) Q E = Run (m σ) (fun v σ' => Q (.vl v) σ') E := rO_val rfl
theorem rO_and (a b : Ex) {m : M Val} {Q : AV → Fr → Prop} : Run (opdM (.and_ a b) m σ) Q E = Run (m σ) (fun v σ' => Q (.vl v) σ') E := rO_val rfl
theorem rO_or (a b : Ex) {m : M Val} {Q : AV → Fr → Prop} : Run (opdM (.or_ a b) m σ) Q E = Run (m σ) (fun v σ' => Q (.vl v) σ') E := rO_val rfl
theorem rO_not (a : Ex) {m : M Val} {Q : AV → Fr → Prop} : Run (opdM (.not_ a) m σ) Q E = Run (m σ) (fun v σ' => Q (.vl v) σ') E := rO_val rfl
theorem rO_chain (p q : Prim) (a b c : Ex) {m : M Val} {Q : AV → Fr → Prop} : Run (opdM (.chain p q a b c) m σ) Q E = Run (m σ) (fun v σ' => Q (.vl v) σ') E := rO_val rfl
theorem rO_mth (p : Prim) (o : Ex) (es : Exs) {m : M Val} {Q : AV → Fr → Prop} : Run (opdM (.mth p o es) m σ) Q E = Run (m σ) (fun v σ' => Q (.vl v) σ') E := rO_val rfl
theorem rO_call (f : Str) (es : Exs) {m : M Val} {Q : AV → Fr → Prop} : Run (opdM (.call f es) m σ) Q E = Run (m σ) (fun v σ' => Q (.vl v) σ') E := rO_val rfl
theorem rO_comp (c : Own) (e : Ex) (own : List Nat) (p : Pat) (it : Itr) (cond : Option_) {m : M Val} {Q : AV → Fr → Prop} : Run (opdM (.comp c e own p it cond) m σ) Q E = Run (m σ) (fun v σ' => Q (.vl v) σ') E := rO_val rfl
theorem rO_dsp (ks : List Str) (vs : Exs) {m : M Val} {Q : AV → Fr → Prop} : Run (opdM (.dsp ks vs) m σ) Q E = Run (m σ) (fun v σ' => Q (.vl v) σ') E := rO_val rfl
theorem rA_nil : Run (evA C .nil σ) A E = A [] σ := by rw [evA]; rfl
theorem rA_cons {e : Ex} {es : Exs} : Run (evA C (.cons e es) σ) A E = Run (opdM e (evE C e) σ) (fun a σ1 => Run (evA C es σ1) (fun as σ' => A (a :: as) σ') E) E := by
  rw [evA, run_bind]
  refine run_cong fun a σ1 => ?_
  rw [run_bind]
  rfl
theorem rL_nil : Run (evL C .nil σ) L E = L [] σ := by rw [evL]; rfl
theorem rL_cons {e : Ex} {es : Exs} : Run (evL C (.cons e es) σ) L E = Run (evE C e σ) (fun a σ1 => Run (evL C es σ1) (fun as σ' => L (a :: as) σ') E) E := by
  rw [evL, run_bind]
  refine run_cong fun a σ1 => ?_
  rw [run_bind]
  rfl
/-! tests -/
theorem rT_and {a b : Ex} : Run (evT C (.and_ a b) σ) T E = Run (evT C a σ) (fun c σ' => if c then Run (evT C b σ') T E else T false σ') E := by
  rw [evT, run_bind]
  refine run_cong fun c σ' => ?_
  rw [run_ite, run_pure]
theorem rT_or {a b : Ex} : Run (evT C (.or_ a b) σ) T E = Run (evT C a σ) (fun c σ' => if c then T true σ' else Run (evT C b σ') T E) E := by
  rw [evT, run_bind]
  refine run_cong fun c σ' => ?_
  rw [run_ite, run_pure]
theorem rT_not {a : Ex} : Run (evT C (.not_ a) σ) T E = Run (evT C a σ) (fun c σ' => T (!c) σ') E := by
  rw [evT, run_bind]
  rfl
theorem rT_val {e : Ex} (h : evT C e = (evE C e).bind fun v => M.of (boolV v)) : Run (evT C e σ) T E = Run (evE C e σ) (fun v σ' => kB v fun c => T c σ') E := by
  rw [h, run_bind]
  refine run_cong fun v σ' => ?_
  rw [run_of, got_boolV]
theorem rT_var {i : Nat} : Run (evT C (.var i) σ) T E = Run (evE C (.var i) σ) (fun v σ' => kB v fun c => T c σ') E := rT_val (by rw [evT, evE])
theorem rT_op {p : Prim} {es : Exs} : Run (evT C (.op p es) σ) T E = Run (evE C (.op p es) σ) (fun v σ' => kB v fun c => T c σ') E := rT_val (by rw [evT, evE])
theorem rT_chain {p q : Prim} {a b c : Ex} : Run (evT C (.chain p q a b c) σ) T E = Run (evE C (.chain p q a b c) σ) (fun v σ' => kB v fun c => T c σ') E := rT_val (by rw [evT, evE])
theorem rT_call {f : Str} {es : Exs} : Run (evT C (.call f es) σ) T E = Run (evE C (.call f es) σ) (fun v σ' => kB v fun c => T c σ') E := rT_val (by rw [evT, evE])
theorem rT_cst {b : Bool} : Run (evT C (.cst (.bl b)) σ) T E = T b σ := by rw [evT, run_of]; rfl
theorem rT_ife {t a b : Ex} : Run (evT C (.ife t a b) σ) T E = Run (evT C t σ) (fun c σ' => if c then Run (evT C a σ') T E else Run (evT C b σ') T E) E := by
  rw [evT, run_bind]
  refine run_cong fun c σ' => ?_
  rw [run_ite]
/-! walks -/
variable {Dk : List D → Fr → Prop}
theorem rI_seq {e : Ex} : Run (evI C (.seq e) σ) Dk E = Run (evE C e σ) (fun v σ' => Got (seqOf v) fun ds => Dk ds σ') E := by
  rw [evI, run_bind]
  refine run_cong fun v σ' => ?_
  rw [run_of]
theorem rI_rng1 {e : Ex} : Run (evI C (.rng1 e) σ) Dk E = Run (evE C e σ) (fun v σ' => Got (intOf v) fun j => (rangeOk j && decide (j ≤ 1000000)) = true ∧ Dk (rangeD 0 j) σ') E := by
  rw [evI, run_bind]
  refine run_cong fun v σ' => ?_
  rw [run_of]
  cases intOf v with
  | none => rfl
  | some j =>
    dsimp only
    rw [got_ite, got_some, got_none, got_some]
    by_cases h : (rangeOk j && decide (j ≤ 1000000)) = true <;> simp [h]
theorem rI_zip {a b : Ex} : Run (evI C (.zip a b) σ) Dk E = Run (evE C a σ) (fun u σ1 => Run (evE C b σ1) (fun v σ' => Got (seqOf u) fun xs => Got (seqOf v) fun ys => (u.1.kind = v.1.kind ∧ xs.length ≤ big) ∧ Dk (zipD xs ys) σ') E) E := by
  rw [evI, run_bind]
  refine run_cong fun u σ1 => ?_
  rw [run_bind]
  refine run_cong fun v σ' => ?_
  rw [run_of]
  cases seqOf u with
  | none => rfl
  | some xs =>
    cases seqOf v with
    | none => rfl
    | some ys =>
      dsimp only
      rw [got_ite, got_some, got_none, got_some, got_some]
      by_cases h : u.1.kind = v.1.kind ∧ xs.length ≤ big <;> simp [h]
/-! statements -/
variable {F : Flow → Fr → Prop}
def next (Q : Fr → Prop) (R : Flow → Fr → Prop) : Flow → Fr → Prop
  | .next, σ => Q σ
  | f, σ => R f σ
theorem next_next {Q : Fr → Prop} {R : Flow → Fr → Prop} : next Q R .next σ = Q σ := rfl
theorem next_ret {Q : Fr → Prop} {R : Flow → Fr → Prop} {v : Val} : next Q R (.ret v) σ = R (.ret v) σ := rfl
theorem next_brk {Q : Fr → Prop} {R : Flow → Fr → Prop} : next Q R .brk σ = R .brk σ := rfl
theorem next_cnt {Q : Fr → Prop} {R : Flow → Fr → Prop} : next Q R .cnt σ = R .cnt σ := rfl
theorem rB_nil : Run (evB C .nil σ) F E = F .next σ := by rw [evB]; rfl
theorem rB_cons {s : Sm} {r : Sms} : Run (evB C (.cons s r) σ) F E = Run (evS C s σ) (next (fun σ' => Run (evB C r σ') F E) F) E := by
  rw [evB, run_bind]
  refine run_cong fun f σ' => ?_
  cases f <;> rfl
theorem rS_asg {p : Pat} {e : Ex} : Run (evS C (.asg p e) σ) F E = Run (evE C e σ) (fun v σ' => Got (asgP p v σ') fun σ2 => F .next σ2) E := by
  rw [evS, run_bind]
  refine run_cong fun v σ' => ?_
  cases asgP p v σ' <;> rfl
theorem rS_par {is : List Nat} {es : Exs} : Run (evS C (.par is es) σ) F E = Run (evL C es σ) (fun vs σ' => Got (setAll is vs σ') fun σ2 => F .next σ2) E := by
  rw [evS, run_bind]
  refine run_cong fun v σ' => ?_
  cases setAll is v σ' <;> rfl
theorem rS_ex {e : Ex} : Run (evS C (.ex e) σ) F E = Run (evE C e σ) (fun _ σ' => F .next σ') E := by rw [evS, run_bind]; rfl
theorem rS_ret {e : Ex} : Run (evS C (.ret e) σ) F E = Run (evE C e σ) (fun v σ' => F (.ret v) σ') E := by rw [evS, run_bind]; rfl
theorem rS_retN : Run (evS C .retN σ) F E = F (.ret (.non, .fz)) σ := by rw [evS]; rfl
theorem rS_iff {t : Ex} {a b : Sms} : Run (evS C (.iff t a b) σ) F E = Run (evT C t σ) (fun c σ' => if c then Run (evB C a σ') F E else Run (evB C b σ') F E) E := by
  rw [evS, run_bind]
  refine run_cong fun c σ' => ?_
  rw [run_ite]
theorem rS_for {p : Pat} {it : Itr} {b : Sms} : Run (evS C (.for_ p it b) σ) F E = Run (evI C it σ) (fun ds σ' => Run (forL (evB C b) p ds σ') F E) E := by rw [evS, run_bind]
theorem rS_whl {t : Ex} {b : Sms} : Run (evS C (.whl t b) σ) F E = Run (whileL (evT C t) (evB C b) C.fuel σ) F E := by rw [evS]
theorem rS_rse {c m : Str} : Run (evS C (.rse c m) σ) F E = E c σ := by rw [evS]; rfl
theorem rS_app {i : Nat} {e : Ex} : Run (evS C (.app i e) σ) F E = Got (slot σ i) fun v0 => (∃ l o, v0 = (.lst l, o)) ∧ Run (evE C e σ) (fun v σ' => Got (slot σ' i) fun w => ∃ ds c, w = (.lst ds, .un c) ∧ Got (itemV c v) fun x => ds.length < big ∧ F .next (σ'.set i (some (.lst (ds ++ [x]), .un c)))) E := by
  rw [evS, run_bind]
  unfold isL
  cases h : slot σ i with
  | none => rfl
  | some v0 =>
    obtain ⟨d, o⟩ := v0
    rw [got_some]
    cases d with
    | lst l =>
      dsimp only
      rw [run_ok, run_bind]
      have : (∃ l1 o1, (D.lst l, o) = (D.lst l1, o1)) = True := eq_true ⟨l, o, rfl⟩
      rw [this, true_and]
      refine run_cong fun v σ' => ?_
      cases slot σ' i with
      | none => rfl
      | some w =>
        obtain ⟨d, o⟩ := w
        rw [got_some]
        cases d with
        | lst ds =>
          cases o with
          | un c =>
            dsimp only
            have e1 : (∃ ds_1 c_1, (D.lst ds, Own.un c) = (D.lst ds_1, Own.un c_1) ∧ Got (itemV c_1 v) fun x => ds_1.length < big ∧ F Flow.next (σ'.set i (some (D.lst (ds_1 ++ [x]), Own.un c_1)))) = (Got (itemV c v) fun x => ds.length < big ∧ F Flow.next (σ'.set i (some (D.lst (ds ++ [x]), Own.un c)))) := by
              apply propext
              constructor
              · rintro ⟨_, _, e, q⟩
                cases e
                exact q
              · exact fun q => ⟨ds, c, rfl, q⟩
            rw [e1]
            cases itemV c v with
            | none => rfl
            | some x =>
              dsimp only
              rw [got_some, run_iteo, run_ok, run_bad]
              by_cases h : ds.length < big <;> simp [h]
          | _ =>
            dsimp only
            rw [run_bad]
            apply Eq.symm
            apply eq_false
            rintro ⟨_, _, e, _⟩
            cases e
        | _ =>
          dsimp only
          rw [run_bad]
          apply Eq.symm
          apply eq_false
          rintro ⟨_, _, e, _⟩
          cases e
    | _ =>
      dsimp only
      rw [run_bad]
      apply Eq.symm
      apply eq_false
      rintro ⟨⟨_, _, e⟩, _⟩
      cases e
theorem rS_ext {i : Nat} {e : Ex} : Run (evS C (.ext i e) σ) F E = Got (slot σ i) fun v0 => (∃ l o, v0 = (.lst l, o)) ∧ Run (evE C e σ) (fun v σ' => Got (slot σ' i) fun w => ∃ ds, w = (.lst ds, .un .fz) ∧ Got (lstOf v) fun xs => ds.length + xs.length ≤ big ∧ F .next (σ'.set i (some (.lst (ds ++ xs), .un .fz)))) E := by
  rw [evS, run_bind]
  unfold isL
  cases h : slot σ i with
  | none => rfl
  | some v0 =>
    obtain ⟨d, o⟩ := v0
    rw [got_some]
    cases d with
    | lst l =>
      dsimp only
      rw [run_ok, run_bind]
      have : (∃ l1 o1, (D.lst l, o) = (D.lst l1, o1)) = True := eq_true ⟨l, o, rfl⟩
      rw [this, true_and]
      refine run_cong fun v σ' => ?_
      cases slot σ' i with
      | none => rfl
      | some w =>
        obtain ⟨d, o⟩ := w
        rw [got_some]
        apply propext
        constructor
        · intro q
          split at q
          · rename_i ds xs e1 e2
            cases e1
            rw [run_iteo, run_ok, run_bad] at q
            refine ⟨ds, rfl, ?_⟩
            rw [e2, got_some]
            by_cases hb : ds.length + xs.length ≤ big
            · rw [if_pos hb] at q; exact ⟨hb, q⟩
            · rw [if_neg hb] at q; exact q.elim
          · exact q.elim
        · rintro ⟨ds, e1, q⟩
          cases e1
          cases e2 : lstOf v with
          | none => rw [e2] at q; exact q.elim
          | some xs =>
            rw [e2, got_some] at q
            dsimp only
            rw [run_iteo, run_ok, run_bad, if_pos q.1]
            exact q.2
    | _ =>
      dsimp only
      rw [run_bad]
      apply Eq.symm
      apply eq_false
      rintro ⟨⟨_, _, e⟩, _⟩
      cases e
theorem rS_sub {i : Nat} {k e : Ex} : Run (evS C (.sub i k e) σ) F E = Run (evE C e σ) (fun v σ1 => Got (slot σ1 i) fun v0 => (∃ l o, v0 = (.lst l, o)) ∧ Run (evE C k σ1) (fun kv σ' => Got (slot σ' i) fun w => ∃ ds c j o, w = (.lst ds, .un c) ∧ kv = (.int j, o) ∧ Got (ixN ds.length j) fun m => Got (itemV c v) fun x => F .next (σ'.set i (some (.lst (ds.set m x), .un c)))) E) E := by
  rw [evS, run_bind]
  refine run_cong fun v σ1 => ?_
  rw [run_bind]
  unfold isL
  cases h : slot σ1 i with
  | none => rfl
  | some v0 =>
    obtain ⟨d, o⟩ := v0
    rw [got_some]
    cases d with
    | lst l =>
      dsimp only
      rw [run_ok, run_bind]
      have : (∃ l1 o1, (D.lst l, o) = (D.lst l1, o1)) = True := eq_true ⟨l, o, rfl⟩
      rw [this, true_and]
      refine run_cong fun kv σ' => ?_
      cases slot σ' i with
      | none => rfl
      | some w =>
        rw [got_some]
        apply propext
        constructor
        · intro q
          split at q
          · rename_i ds c j oj e1
            cases e1
            refine ⟨ds, c, j, oj, rfl, rfl, ?_⟩
            cases e2 : ixN ds.length j with
            | none => rw [e2] at q; exact q.elim
            | some m =>
              rw [got_some]
              cases e3 : itemV c v with
              | none => rw [e2, e3] at q; exact q.elim
              | some x => rw [e2, e3] at q; exact q
          · exact q.elim
        · rintro ⟨ds, c, j, o, rfl, rfl, q⟩
          dsimp only
          cases e2 : ixN ds.length j with
          | none => rw [e2] at q; exact q.elim
          | some m =>
            rw [e2, got_some] at q
            cases e3 : itemV c v with
            | none => rw [e3] at q; exact q.elim
            | some x => rw [e3, got_some] at q; exact q
    | _ =>
      dsimp only
      rw [run_bad]
      apply Eq.symm
      apply eq_false
      rintro ⟨⟨_, _, e⟩, _⟩
      cases e
end
end Py

set_option Elab.async false
set_option linter.all false
set_option maxRecDepth 100000
/-! MR3: loops. -/
namespace Py
open PySem
def noX : Str → Fr → Prop := fun _ _ => False
theorem compL_run {cond : M Bool} {elt : M Val} {c : Own} {own : List Nat} {p : Pat} (J : List D → List D → Fr → Prop)
    (step : ∀ d rest acc τ, J (d :: rest) acc τ → Got (asgP p (d, .fz) τ) fun σ1 => Run (cond σ1) (fun b σ2 => if b then Run (elt σ2) (fun v σ3 => Got (itemV c v) fun x => J rest (acc ++ [x]) (clr own σ3)) noX else J rest acc (clr own σ2)) noX) :
    ∀ ds σ acc, J ds acc (clr own σ) → ∃ xs σ', compL cond elt c own p ds σ = .ok xs σ' ∧ J [] (acc ++ xs) σ'
  | [], σ, acc, h => ⟨[], _, rfl, by rw [List.append_nil]; exact h⟩
  | d :: r, σ, acc, h => by
    have s := step d r acc _ h
    unfold compL
    cases e1 : asgP p (d, .fz) (clr own σ) with
    | none => rw [e1] at s; exact s.elim
    | some σ1 =>
      rw [e1, got_some] at s
      dsimp only
      cases e2 : cond σ1 with
      | bad => rw [e2] at s; exact s.elim
      | exn c' σ2 => rw [e2] at s; exact s.elim
      | ok b σ2 =>
        rw [e2, run_ok] at s
        cases b with
        | false =>
          dsimp only
          exact compL_run J step r σ2 acc (by simpa using s)
        | true =>
          dsimp only
          rw [if_pos rfl] at s
          cases e3 : elt σ2 with
          | bad => rw [e3] at s; exact s.elim
          | exn c' σ3 => rw [e3] at s; exact s.elim
          | ok v σ3 =>
            rw [e3, run_ok] at s
            dsimp only
            cases e4 : itemV c v with
            | none => rw [e4] at s; exact s.elim
            | some x =>
              rw [e4, got_some] at s
              dsimp only
              obtain ⟨xs, σ', e5, h5⟩ := compL_run J step r σ3 (acc ++ [x]) s
              rw [e5]
              exact ⟨x :: xs, σ', rfl, by rw [List.append_assoc] at h5; exact h5⟩
theorem run_comp {cond : M Bool} {elt : M Val} {c : Own} {own : List Nat} {p : Pat} {ds : List D} {σ : Fr} {Q : Val → Fr → Prop} {E : Str → Fr → Prop} (J : List D → List D → Fr → Prop)
    (h0 : Got (wipeF own σ) fun σ1 => J ds [] (clr own σ1))
    (step : ∀ d rest acc τ, J (d :: rest) acc τ → Got (asgP p (d, .fz) τ) fun σ1 => Run (cond σ1) (fun b σ2 => if b then Run (elt σ2) (fun v σ3 => Got (itemV c v) fun x => J rest (acc ++ [x]) (clr own σ3)) noX else J rest acc (clr own σ2)) noX)
    (fin : ∀ xs τ, J [] xs τ → Q (.lst xs, .un c) (putBack σ own τ)) : Run (compM (M.pure ds) cond elt c own p σ) Q E := by
  unfold compM
  rw [run_bind, run_pure]
  cases e : wipeF own σ with
  | none => rw [e] at h0; exact h0.elim
  | some σ1 =>
    rw [e, got_some] at h0
    dsimp only
    obtain ⟨xs, σ', e1, h1⟩ := compL_run J step ds σ1 [] h0
    rw [e1]
    exact fin xs σ' h1
theorem run_for {body : M Flow} {p : Pat} {Q : Flow → Fr → Prop} {E : Str → Fr → Prop} (J : List D → Fr → Prop)
    (step : ∀ d rest τ, J (d :: rest) τ → Got (asgP p (d, .fz) τ) fun σ1 => Run (body σ1) (fun f σ2 => match f with | .next => J rest σ2 | .cnt => J rest σ2 | .brk => Q .next σ2 | .ret v => Q (.ret v) σ2) E)
    (fin : ∀ τ, J [] τ → Q .next τ) : ∀ ds σ, J ds σ → Run (forL body p ds σ) Q E
  | [], σ, h => fin σ h
  | d :: r, σ, h => by
    have s := step d r σ h
    unfold forL
    cases e1 : asgP p (d, .fz) σ with
    | none => rw [e1] at s; exact s.elim
    | some σ1 =>
      rw [e1, got_some] at s
      dsimp only
      cases e2 : body σ1 with
      | bad => rw [e2] at s; exact s.elim
      | exn c σ2 => rw [e2] at s; exact s
      | ok f σ2 =>
        rw [e2, run_ok] at s
        cases f with
        | next => exact run_for J step fin r σ2 s
        | cnt => exact run_for J step fin r σ2 s
        | brk => exact s
        | ret v => exact s
theorem run_while {t : M Bool} {body : M Flow} {Q : Flow → Fr → Prop} {E : Str → Fr → Prop} (J : Nat → Fr → Prop)
    (step : ∀ n τ, J n τ → Run (t τ) (fun c σ1 => if c then Run (body σ1) (fun f σ2 => match f with | .next => ∃ m, m < n ∧ J m σ2 | .cnt => ∃ m, m < n ∧ J m σ2 | .brk => Q .next σ2 | .ret v => Q (.ret v) σ2) E else Q .next σ1) E) :
    ∀ (k n : Nat) σ, n < k → J n σ → Run (whileL t body k σ) Q E
  | 0, n, σ, hk, _ => absurd hk (Nat.not_lt_zero _)
  | k + 1, n, σ, hk, h => by
    have s := step n σ h
    unfold whileL
    cases e1 : t σ with
    | bad => rw [e1] at s; exact s.elim
    | exn c σ1 => rw [e1] at s; exact s
    | ok c σ1 =>
      rw [e1, run_ok] at s
      cases c with
      | false =>
        rw [if_neg (by decide)] at s
        exact s
      | true =>
        rw [if_pos rfl] at s
        dsimp only
        cases e2 : body σ1 with
        | bad => rw [e2] at s; exact s.elim
        | exn c σ2 => rw [e2] at s; exact s
        | ok f σ2 =>
          rw [e2, run_ok] at s
          cases f with
          | next =>
            obtain ⟨m, hm, hj⟩ := s
            exact run_while J step k m σ2 (by omega) hj
          | cnt =>
            obtain ⟨m, hm, hj⟩ := s
            exact run_while J step k m σ2 (by omega) hj
          | brk => exact s
          | ret v => exact s
end Py

set_option maxRecDepth 100000
namespace Py
open PySem
def fd_is_whole : Fd := ⟨[false, false, false], 0,
  (.cons (.ret (.and_ (.op .isInt (.cons (.var 0) .nil)) (.and_ (.not_ (.op .isBool (.cons (.var 0) .nil))) (.chain .le .le (.var 1) (.var 0) (.var 2)))))
  .nil)⟩
def fd_is_unit : Fd := ⟨[false], 0,
  (.cons (.ret (.call "is_whole" (.cons (.var 0) (.cons (.cst (.int 0)) (.cons (.op .sub (.cons (.glb "UNITS") (.cons (.cst (.int 1)) .nil))) .nil)))))
  .nil)⟩
def fd_inner_of : Fd := ⟨[false], 0,
  (.cons (.ret (.op .list (.cons (.mth .dget2 (.dsp ["if", "while", "beside"] (.cons (.op .slLo (.cons (.var 0) (.cons (.cst (.int 2)) .nil))) (.cons (.op .slLo (.cons (.var 0) (.cons (.cst (.int 2)) .nil))) (.cons (.op .slLo (.cons (.var 0) (.cons (.cst (.int 1)) .nil))) .nil)))) (.cons (.op .idx (.cons (.var 0) (.cons (.cst (.int 0)) .nil))) (.cons (.tup .nil) .nil))) .nil)))
  .nil)⟩
def fd_is_sum_row : Fd := ⟨[false], 0,
  (.cons (.iff (.or_ (.op .ne (.cons (.op .len (.cons (.var 0) .nil)) (.cons (.cst (.int 4)) .nil))) (.or_ (.not_ (.call "is_unit" (.cons (.op .idx (.cons (.var 0) (.cons (.cst (.int 1)) .nil))) .nil))) (.or_ (.not_ (.call "is_unit" (.cons (.op .idx (.cons (.var 0) (.cons (.cst (.int 2)) .nil))) .nil))) (.op .eq (.cons (.op .idx (.cons (.var 0) (.cons (.cst (.int 1)) .nil))) (.cons (.op .idx (.cons (.var 0) (.cons (.cst (.int 2)) .nil))) .nil)))))) (.cons (.ret (.cst (.bl false)))
  .nil) .nil)
  (.cons (.ret (.call "is_whole" (.cons (.op .idx (.cons (.var 0) (.cons (.cst (.int 3)) .nil))) (.cons (.cst (.int 1)) (.cons (.glb "MANY") .nil)))))
  .nil))⟩
def fd_is_row : Fd := ⟨[false, false], 1,
  (.cons (.iff (.or_ (.op .eq (.cons (.var 1) (.cons (.cst (.int 0)) .nil))) (.or_ (.not_ (.op .isTuple (.cons (.var 0) .nil))) (.or_ (.op .eq (.cons (.var 0) (.cons (.tup .nil) .nil))) (.not_ (.op .isStr (.cons (.op .idx (.cons (.var 0) (.cons (.cst (.int 0)) .nil))) .nil)))))) (.cons (.ret (.cst (.bl false)))
  .nil) .nil)
  (.cons (.iff (.op .in_ (.cons (.op .idx (.cons (.var 0) (.cons (.cst (.int 0)) .nil))) (.cons (.tup (.cons (.cst (.str "add")) (.cons (.cst (.str "less")) .nil))) .nil))) (.cons (.ret (.call "is_sum_row" (.cons (.var 0) .nil)))
  .nil) .nil)
  (.cons (.iff (.op .eq (.cons (.op .idx (.cons (.var 0) (.cons (.cst (.int 0)) .nil))) (.cons (.cst (.str "zero")) .nil))) (.cons (.ret (.and_ (.op .eq (.cons (.op .len (.cons (.var 0) .nil)) (.cons (.cst (.int 2)) .nil))) (.call "is_unit" (.cons (.op .idx (.cons (.var 0) (.cons (.cst (.int 1)) .nil))) .nil))))
  .nil) .nil)
  (.cons (.iff (.op .ne (.cons (.op .len (.cons (.var 0) .nil)) (.cons (.mth .dget2 (.dsp ["if", "while", "beside"] (.cons (.cst (.int 4)) (.cons (.cst (.int 3)) (.cons (.cst (.int 3)) .nil)))) (.cons (.op .idx (.cons (.var 0) (.cons (.cst (.int 0)) .nil))) (.cons (.cst (.int 0)) .nil))) .nil))) (.cons (.ret (.cst (.bl false)))
  .nil) .nil)
  (.cons (.iff (.and_ (.op .in_ (.cons (.op .idx (.cons (.var 0) (.cons (.cst (.int 0)) .nil))) (.cons (.tup (.cons (.cst (.str "if")) (.cons (.cst (.str "while")) .nil))) .nil))) (.not_ (.call "is_unit" (.cons (.op .idx (.cons (.var 0) (.cons (.cst (.int 1)) .nil))) .nil)))) (.cons (.ret (.cst (.bl false)))
  .nil) .nil)
  (.cons (.iff (.not_ (.op .all_ (.cons (.comp .fz (.call "are_rows" (.cons (.var 2) (.cons (.op .sub (.cons (.var 1) (.cons (.cst (.int 1)) .nil))) .nil))) [2] (.nm 2) (.seq (.call "inner_of" (.cons (.var 0) .nil))) .none) .nil))) (.cons (.ret (.cst (.bl false)))
  .nil) .nil)
  (.cons (.ret (.or_ (.op .ne (.cons (.op .idx (.cons (.var 0) (.cons (.cst (.int 0)) .nil))) (.cons (.cst (.str "beside")) .nil))) (.call "is_apart" (.cons (.var 0) .nil))))
  .nil)))))))⟩
def fd_is_apart : Fd := ⟨[false], 3,
  (.cons (.asg (.cn (.nm 1) (.cn (.nm 2) .nl)) (.tup (.cons (.call "units_in" (.cons (.op .idx (.cons (.var 0) (.cons (.cst (.int 1)) .nil))) .nil)) (.cons (.call "units_in" (.cons (.op .idx (.cons (.var 0) (.cons (.cst (.int 2)) .nil))) .nil)) .nil))))
  (.cons (.ret (.and_ (.or_ (.op .ne (.cons (.op .idx (.cons (.var 0) (.cons (.cst (.int 1)) .nil))) (.cons (.tup .nil) .nil))) (.op .ne (.cons (.op .idx (.cons (.var 0) (.cons (.cst (.int 2)) .nil))) (.cons (.tup .nil) .nil)))) (.not_ (.op .any_ (.cons (.comp .fz (.op .in_ (.cons (.var 3) (.cons (.var 2) .nil))) [3] (.nm 3) (.seq (.var 1)) .none) .nil)))))
  .nil))⟩
def fd_are_rows : Fd := ⟨[false, false], 1,
  (.cons (.ret (.and_ (.op .isTuple (.cons (.var 0) .nil)) (.op .all_ (.cons (.comp .fz (.call "is_row" (.cons (.var 2) (.cons (.var 1) .nil))) [2] (.nm 2) (.seq (.var 0)) .none) .nil))))
  .nil)⟩
def fd_count_of : Fd := ⟨[false], 2,
  (.cons (.ret (.op .sum (.cons (.comp .fz (.op .add (.cons (.cst (.int 1)) (.cons (.op .sum (.cons (.comp .fz (.call "count_of" (.cons (.var 2) .nil)) [2] (.nm 2) (.seq (.call "inner_of" (.cons (.var 1) .nil))) .none) .nil)) .nil))) [1] (.nm 1) (.seq (.var 0)) .none) .nil)))
  .nil)⟩
def fd_own_units : Fd := ⟨[false], 0,
  (.cons (.iff (.op .in_ (.cons (.op .idx (.cons (.var 0) (.cons (.cst (.int 0)) .nil))) (.cons (.tup (.cons (.cst (.str "add")) (.cons (.cst (.str "less")) .nil))) .nil))) (.cons (.ret (.lst .fz (.cons (.op .idx (.cons (.var 0) (.cons (.cst (.int 1)) .nil))) (.cons (.op .idx (.cons (.var 0) (.cons (.cst (.int 2)) .nil))) .nil))))
  .nil) .nil)
  (.cons (.ret (.ife (.op .ne (.cons (.op .idx (.cons (.var 0) (.cons (.cst (.int 0)) .nil))) (.cons (.cst (.str "beside")) .nil))) (.lst .fz (.cons (.op .idx (.cons (.var 0) (.cons (.cst (.int 1)) .nil))) .nil)) (.lst .fz .nil)))
  .nil))⟩
def fd_units_in : Fd := ⟨[false], 3,
  (.cons (.asg (.nm 1) (.lst .fz .nil))
  (.cons (.for_ (.nm 2) (.seq (.var 0)) (.cons (.ext 1 (.call "own_units" (.cons (.var 2) .nil)))
  (.cons (.for_ (.nm 3) (.seq (.call "inner_of" (.cons (.var 2) .nil))) (.cons (.ext 1 (.call "units_in" (.cons (.var 3) .nil)))
  .nil))
  .nil)))
  (.cons (.ret (.mov 1))
  .nil)))⟩
def fd_need_rows : Fd := ⟨[false], 0,
  (.cons (.iff (.or_ (.not_ (.call "are_rows" (.cons (.var 0) (.cons (.glb "DEEP") .nil)))) (.op .gt (.cons (.call "count_of" (.cons (.var 0) .nil)) (.cons (.glb "ROWS") .nil)))) (.cons (.rse "NoReckoning" "no reckoning")
  .nil) .nil)
  .nil)⟩
def fd_need_numbers : Fd := ⟨[false], 1,
  (.cons (.iff (.or_ (.not_ (.op .isTuple (.cons (.var 0) .nil))) (.op .ne (.cons (.op .len (.cons (.var 0) .nil)) (.cons (.glb "UNITS") .nil)))) (.cons (.rse "NoNumbers" "no numbers")
  .nil) .nil)
  (.cons (.iff (.not_ (.op .all_ (.cons (.comp .fz (.call "is_whole" (.cons (.var 1) (.cons (.op .sub (.cons (.cst (.int 0)) (.cons (.glb "GREAT") .nil))) (.cons (.glb "GREAT") .nil)))) [1] (.nm 1) (.seq (.var 0)) .none) .nil))) (.cons (.rse "NoNumbers" "no numbers")
  .nil) .nil)
  .nil))⟩
def fd_step_on : Fd := ⟨[false, false], 0,
  (.cons (.iff (.op .gt (.cons (.op .add (.cons (.var 0) (.cons (.var 1) .nil))) (.cons (.glb "BEATS") .nil))) (.cons (.rse "Endless" "too many beats")
  .nil) .nil)
  (.cons (.ret (.op .add (.cons (.var 0) (.cons (.var 1) .nil))))
  .nil))⟩
def fd_rows_done : Fd := ⟨[false, true, false], 1,
  (.cons (.for_ (.nm 3) (.seq (.var 0)) (.cons (.asg (.nm 2) (.call "row_done" (.cons (.var 3) (.cons (.var 1) (.cons (.var 2) .nil)))))
  .nil))
  (.cons (.ret (.mov 2))
  .nil))⟩
def fd_row_done : Fd := ⟨[false, true, false], 1,
  (.cons (.iff (.op .in_ (.cons (.op .idx (.cons (.var 0) (.cons (.cst (.int 0)) .nil))) (.cons (.tup (.cons (.cst (.str "add")) (.cons (.cst (.str "less")) .nil))) .nil))) (.cons (.asg (.nm 3) (.ife (.op .eq (.cons (.op .idx (.cons (.var 0) (.cons (.cst (.int 0)) .nil))) (.cons (.cst (.str "add")) .nil))) (.cst (.int 1)) (.op .neg (.cons (.cst (.int 1)) .nil))))
  (.cons (.sub 1 (.op .idx (.cons (.var 0) (.cons (.cst (.int 1)) .nil))) (.op .add (.cons (.op .idx (.cons (.var 1) (.cons (.op .idx (.cons (.var 0) (.cons (.cst (.int 1)) .nil))) .nil))) (.cons (.op .mul (.cons (.op .mul (.cons (.var 3) (.cons (.op .idx (.cons (.var 0) (.cons (.cst (.int 3)) .nil))) .nil))) (.cons (.op .idx (.cons (.var 1) (.cons (.op .idx (.cons (.var 0) (.cons (.cst (.int 2)) .nil))) .nil))) .nil))) .nil))))
  (.cons (.ret (.call "step_on" (.cons (.var 2) (.cons (.op .idx (.cons (.var 0) (.cons (.cst (.int 3)) .nil))) .nil))))
  .nil))) .nil)
  (.cons (.iff (.op .eq (.cons (.op .idx (.cons (.var 0) (.cons (.cst (.int 0)) .nil))) (.cons (.cst (.str "zero")) .nil))) (.cons (.sub 1 (.op .idx (.cons (.var 0) (.cons (.cst (.int 1)) .nil))) (.cst (.int 0)))
  (.cons (.ret (.call "step_on" (.cons (.var 2) (.cons (.cst (.int 1)) .nil))))
  .nil)) .nil)
  (.cons (.iff (.op .eq (.cons (.op .idx (.cons (.var 0) (.cons (.cst (.int 0)) .nil))) (.cons (.cst (.str "if")) .nil))) (.cons (.ret (.call "rows_done" (.cons (.ife (.op .gt (.cons (.op .idx (.cons (.var 1) (.cons (.op .idx (.cons (.var 0) (.cons (.cst (.int 1)) .nil))) .nil))) (.cons (.cst (.int 0)) .nil))) (.op .idx (.cons (.var 0) (.cons (.cst (.int 2)) .nil))) (.op .idx (.cons (.var 0) (.cons (.cst (.int 3)) .nil)))) (.cons (.var 1) (.cons (.call "step_on" (.cons (.var 2) (.cons (.cst (.int 1)) .nil))) .nil)))))
  .nil) .nil)
  (.cons (.iff (.op .eq (.cons (.op .idx (.cons (.var 0) (.cons (.cst (.int 0)) .nil))) (.cons (.cst (.str "beside")) .nil))) (.cons (.ret (.call "step_on" (.cons (.op .max2 (.cons (.call "rows_done" (.cons (.op .idx (.cons (.var 0) (.cons (.cst (.int 1)) .nil))) (.cons (.var 1) (.cons (.var 2) .nil)))) (.cons (.call "rows_done" (.cons (.op .idx (.cons (.var 0) (.cons (.cst (.int 2)) .nil))) (.cons (.var 1) (.cons (.var 2) .nil)))) .nil))) (.cons (.cst (.int 1)) .nil))))
  .nil) .nil)
  (.cons (.whl (.op .gt (.cons (.op .idx (.cons (.var 1) (.cons (.op .idx (.cons (.var 0) (.cons (.cst (.int 1)) .nil))) .nil))) (.cons (.cst (.int 0)) .nil))) (.cons (.asg (.nm 2) (.call "rows_done" (.cons (.op .idx (.cons (.var 0) (.cons (.cst (.int 2)) .nil))) (.cons (.var 1) (.cons (.call "step_on" (.cons (.var 2) (.cons (.cst (.int 1)) .nil))) .nil)))))
  .nil))
  (.cons (.ret (.call "step_on" (.cons (.var 2) (.cons (.cst (.int 1)) .nil))))
  .nil))))))⟩
def fd_reckoned : Fd := ⟨[false, false], 2,
  (.cons (.ex (.call "need_rows" (.cons (.var 0) .nil)))
  (.cons (.ex (.call "need_numbers" (.cons (.var 1) .nil)))
  (.cons (.asg (.nm 2) (.op .list (.cons (.var 1) .nil)))
  (.cons (.asg (.nm 3) (.call "rows_done" (.cons (.var 0) (.cons (.var 2) (.cons (.cst (.int 0)) .nil)))))
  (.cons (.ret (.tup (.cons (.op .tuple (.cons (.var 2) .nil)) (.cons (.var 3) .nil))))
  .nil)))))⟩
def fd__law_cell_at : Fd := ⟨[false, false], 0,
  (.cons (.iff (.op .lt (.cons (.var 1) (.cons (.op .len (.cons (.var 0) .nil)) .nil))) (.cons (.ret (.op .idx (.cons (.var 0) (.cons (.var 1) .nil))))
  .nil) .nil)
  (.cons (.iff (.op .eq (.cons (.var 0) (.cons (.lst .fz .nil) .nil))) (.cons (.ret (.cst (.int 0)))
  .nil) .nil)
  (.cons (.ret (.op .add (.cons (.op .mul (.cons (.op .idx (.cons (.var 0) (.cons (.op .mod (.cons (.var 1) (.cons (.op .len (.cons (.var 0) .nil)) .nil))) .nil))) (.cons (.cst (.int 31)) .nil))) (.cons (.var 1) .nil))))
  .nil)))⟩
def fd__law_mixed : Fd := ⟨[false, false, false], 1,
  (.cons (.asg (.nm 3) (.op .mod (.cons (.op .add (.cons (.op .add (.cons (.op .mul (.cons (.call "_law_cell_at" (.cons (.var 0) (.cons (.var 1) .nil))) (.cons (.cst (.int 1103515245)) .nil))) (.cons (.op .mul (.cons (.cst (.int 7919)) (.cons (.var 1) .nil))) .nil))) (.cons (.cst (.int 12345)) .nil))) (.cons (.cst (.int 2147483647)) .nil))))
  (.cons (.ret (.op .mod (.cons (.op .mod (.cons (.op .mod (.cons (.op .pow (.cons (.var 3) (.cons (.cst (.int 5)) .nil))) (.cons (.cst (.int 2147483647)) .nil))) (.cons (.cst (.int 999983)) .nil))) (.cons (.var 2) .nil))))
  .nil))⟩
def fd__law_draw : Fd := ⟨[false, true, false], 0,
  (.cons (.app 1 (.cst (.int 0)))
  (.cons (.ret (.call "_law_mixed" (.cons (.var 0) (.cons (.op .len (.cons (.var 1) .nil)) (.cons (.var 2) .nil)))))
  .nil))⟩
def fd__law_pick : Fd := ⟨[false, true, false], 0,
  (.cons (.ret (.op .idx (.cons (.var 2) (.cons (.call "_law_draw" (.cons (.var 0) (.cons (.var 1) (.cons (.op .len (.cons (.var 2) .nil)) .nil)))) .nil))))
  .nil)⟩
def fd__law_some_units : Fd := ⟨[false, true, false], 2,
  (.cons (.asg (.nm 3) (.call "_law_pick" (.cons (.var 0) (.cons (.var 1) (.cons (.var 2) .nil)))))
  (.cons (.asg (.nm 4) (.call "_law_pick" (.cons (.var 0) (.cons (.var 1) (.cons (.var 2) .nil)))))
  (.cons (.iff (.op .eq (.cons (.var 3) (.cons (.var 4) .nil))) (.cons (.asg (.nm 4) (.op .idx (.cons (.var 2) (.cons (.op .mod (.cons (.op .add (.cons (.mth .tindex (.var 2) (.cons (.var 3) .nil)) (.cons (.cst (.int 1)) .nil))) (.cons (.op .len (.cons (.var 2) .nil)) .nil))) .nil))))
  .nil) .nil)
  (.cons (.ret (.tup (.cons (.var 3) (.cons (.var 4) .nil))))
  .nil))))⟩
def fd__law_row : Fd := ⟨[false, true, false, false, false], 10,
  (.cons (.asg (.nm 5) (.call "_law_pick" (.cons (.var 0) (.cons (.var 1) (.cons (.ife (.op .gt (.cons (.var 3) (.cons (.cst (.int 1)) .nil))) (.var 4) (.comp .fz (.var 5) [5] (.nm 5) (.seq (.var 4)) (.some (.op .in_ (.cons (.var 5) (.cons (.tup (.cons (.cst (.str "add")) (.cons (.cst (.str "less")) (.cons (.cst (.str "zero")) .nil)))) .nil)))))) .nil)))))
  (.cons (.asg (.cn (.nm 11) (.cn (.nm 12) .nl)) (.call "_law_some_units" (.cons (.var 0) (.cons (.var 1) (.cons (.var 2) .nil)))))
  (.cons (.asg (.nm 6) (.op .add (.cons (.cst (.int 1)) (.cons (.call "_law_draw" (.cons (.var 0) (.cons (.var 1) (.cons (.call "_law_pick" (.cons (.var 0) (.cons (.var 1) (.cons (.lst .fz (.cons (.cst (.int 1)) (.cons (.cst (.int 3)) (.cons (.cst (.int 9)) .nil)))) .nil)))) .nil)))) .nil))))
  (.cons (.iff (.op .in_ (.cons (.var 5) (.cons (.tup (.cons (.cst (.str "add")) (.cons (.cst (.str "less")) .nil))) .nil))) (.cons (.ret (.ife (.op .ne (.cons (.var 11) (.cons (.var 12) .nil))) (.tup (.cons (.var 5) (.cons (.var 11) (.cons (.var 12) (.cons (.var 6) .nil))))) (.tup (.cons (.cst (.str "zero")) (.cons (.var 11) .nil)))))
  .nil) .nil)
  (.cons (.iff (.op .eq (.cons (.var 5) (.cons (.cst (.str "zero")) .nil))) (.cons (.ret (.tup (.cons (.var 5) (.cons (.var 11) .nil))))
  .nil) .nil)
  (.cons (.asg (.nm 7) (.op .add (.cons (.cst (.int 1)) (.cons (.call "_law_draw" (.cons (.var 0) (.cons (.var 1) (.cons (.cst (.int 2)) .nil)))) .nil))))
  (.cons (.iff (.op .eq (.cons (.var 5) (.cons (.cst (.str "while")) .nil))) (.cons (.asg (.nm 13) (.call "_law_rows" (.cons (.var 0) (.cons (.var 1) (.cons (.var 2) (.cons (.op .sub (.cons (.var 3) (.cons (.cst (.int 1)) .nil))) (.cons (.var 7) (.cons (.var 4) .nil))))))))
  (.cons (.ret (.tup (.cons (.var 5) (.cons (.var 11) (.cons (.op .add (.cons (.var 13) (.cons (.op .mul (.cons (.tup (.cons (.tup (.cons (.cst (.str "less")) (.cons (.var 11) (.cons (.var 12) (.cons (.cst (.int 1)) .nil))))) .nil)) (.cons (.op .int_ (.cons (.op .ne (.cons (.var 11) (.cons (.var 12) .nil))) .nil)) .nil))) .nil))) .nil)))))
  .nil)) .nil)
  (.cons (.iff (.op .eq (.cons (.var 5) (.cons (.cst (.str "if")) .nil))) (.cons (.asg (.nm 14) (.call "_law_rows" (.cons (.var 0) (.cons (.var 1) (.cons (.var 2) (.cons (.op .sub (.cons (.var 3) (.cons (.cst (.int 1)) .nil))) (.cons (.call "_law_draw" (.cons (.var 0) (.cons (.var 1) (.cons (.cst (.int 3)) .nil)))) (.cons (.var 4) .nil))))))))
  (.cons (.ret (.tup (.cons (.var 5) (.cons (.var 11) (.cons (.call "_law_rows" (.cons (.var 0) (.cons (.var 1) (.cons (.var 2) (.cons (.op .sub (.cons (.var 3) (.cons (.cst (.int 1)) .nil))) (.cons (.var 7) (.cons (.var 4) .nil))))))) (.cons (.var 14) .nil))))))
  .nil)) .nil)
  (.cons (.asg (.nm 8) (.op .add (.cons (.cst (.int 1)) (.cons (.call "_law_draw" (.cons (.var 0) (.cons (.var 1) (.cons (.op .max2 (.cons (.cst (.int 1)) (.cons (.op .sub (.cons (.op .len (.cons (.var 2) .nil)) (.cons (.cst (.int 1)) .nil))) .nil))) .nil)))) .nil))))
  (.cons (.asg (.nm 9) (.call "_law_rows" (.cons (.var 0) (.cons (.var 1) (.cons (.op .slHi (.cons (.var 2) (.cons (.var 8) .nil))) (.cons (.op .sub (.cons (.var 3) (.cons (.cst (.int 1)) .nil))) (.cons (.var 7) (.cons (.var 4) .nil))))))))
  (.cons (.asg (.nm 10) (.tup .nil))
  (.cons (.iff (.op .ne (.cons (.op .slLo (.cons (.var 2) (.cons (.var 8) .nil))) (.cons (.tup .nil) .nil))) (.cons (.asg (.nm 10) (.call "_law_rows" (.cons (.var 0) (.cons (.var 1) (.cons (.op .slLo (.cons (.var 2) (.cons (.var 8) .nil))) (.cons (.op .sub (.cons (.var 3) (.cons (.cst (.int 1)) .nil))) (.cons (.call "_law_draw" (.cons (.var 0) (.cons (.var 1) (.cons (.cst (.int 3)) .nil)))) (.cons (.var 4) .nil))))))))
  .nil) .nil)
  (.cons (.ret (.ife (.op .eq (.cons (.call "_law_draw" (.cons (.var 0) (.cons (.var 1) (.cons (.cst (.int 2)) .nil)))) (.cons (.cst (.int 0)) .nil))) (.tup (.cons (.cst (.str "beside")) (.cons (.var 9) (.cons (.var 10) .nil)))) (.tup (.cons (.cst (.str "beside")) (.cons (.var 10) (.cons (.var 9) .nil))))))
  .nil)))))))))))))⟩
def fd__law_rows : Fd := ⟨[false, true, false, false, false, false], 1,
  (.cons (.ret (.op .tuple (.cons (.comp .fz (.call "_law_row" (.cons (.var 0) (.cons (.var 1) (.cons (.var 2) (.cons (.var 3) (.cons (.var 5) .nil)))))) [6] (.nm 6) (.rng1 (.var 4)) .none) .nil)))
  .nil)⟩
def fd__law_inner : Fd := ⟨[false], 0,
  (.cons (.iff (.op .in_ (.cons (.op .idx (.cons (.var 0) (.cons (.cst (.int 0)) .nil))) (.cons (.tup (.cons (.cst (.str "if")) (.cons (.cst (.str "while")) .nil))) .nil))) (.cons (.ret (.op .list (.cons (.op .slLo (.cons (.var 0) (.cons (.cst (.int 2)) .nil))) .nil)))
  .nil) .nil)
  (.cons (.ret (.ife (.op .eq (.cons (.op .idx (.cons (.var 0) (.cons (.cst (.int 0)) .nil))) (.cons (.cst (.str "beside")) .nil))) (.op .list (.cons (.op .slLo (.cons (.var 0) (.cons (.cst (.int 1)) .nil))) .nil)) (.lst .fz .nil)))
  .nil))⟩
def fd__law_count : Fd := ⟨[false], 2,
  (.cons (.ret (.op .sum (.cons (.comp .fz (.op .add (.cons (.cst (.int 1)) (.cons (.op .sum (.cons (.comp .fz (.call "_law_count" (.cons (.var 2) .nil)) [2] (.nm 2) (.seq (.call "_law_inner" (.cons (.var 1) .nil))) .none) .nil)) .nil))) [1] (.nm 1) (.seq (.var 0)) .none) .nil)))
  .nil)⟩
def fd__law_reckoning : Fd := ⟨[false, true, false, false], 2,
  (.cons (.asg (.nm 4) (.call "_law_pick" (.cons (.var 0) (.cons (.var 1) (.cons (.lst .fz (.cons (.tup (.cons (.cst (.int 0)) (.cons (.cst (.int 1)) (.cons (.cst (.int 2)) (.cons (.cst (.int 3)) (.cons (.cst (.int 4)) (.cons (.cst (.int 5)) .nil))))))) (.cons (.tup (.cons (.cst (.int 0)) (.cons (.cst (.int 1)) (.cons (.cst (.int 2)) (.cons (.cst (.int 3)) .nil))))) (.cons (.tup (.cons (.cst (.int 5)) (.cons (.cst (.int 2)) (.cons (.cst (.int 0)) .nil)))) (.cons (.tup (.cons (.cst (.int 1)) (.cons (.cst (.int 4)) .nil))) .nil))))) .nil)))))
  (.cons (.asg (.nm 5) (.call "_law_rows" (.cons (.var 0) (.cons (.var 1) (.cons (.var 4) (.cons (.cst (.int 3)) (.cons (.call "_law_draw" (.cons (.var 0) (.cons (.var 1) (.cons (.op .add (.cons (.var 2) (.cons (.cst (.int 1)) .nil))) .nil)))) (.cons (.var 3) .nil))))))))
  (.cons (.whl (.op .gt (.cons (.call "_law_count" (.cons (.var 5) .nil)) (.cons (.cst (.int 12)) .nil))) (.cons (.asg (.nm 5) (.op .slLo (.cons (.var 5) (.cons (.cst (.int 1)) .nil))))
  .nil))
  (.cons (.ret (.mov 5))
  .nil))))⟩
def fd_law : Fd := ⟨[false], 13,
  (.cons (.asg (.nm 1) (.lst .fz .nil))
  (.cons (.asg (.nm 2) (.op .sub (.cons (.call "_law_draw" (.cons (.var 0) (.cons (.var 1) (.cons (.cst (.int 7)) .nil)))) (.cons (.cst (.int 3)) .nil))))
  (.cons (.asg (.nm 3) (.call "_law_reckoning" (.cons (.var 0) (.cons (.var 1) (.cons (.cst (.int 5)) (.cons (.tup (.cons (.cst (.str "add")) (.cons (.cst (.str "add")) (.cons (.cst (.str "less")) (.cons (.cst (.str "zero")) (.cons (.cst (.str "beside")) .nil)))))) .nil))))))
  (.cons (.asg (.nm 4) (.op .tuple (.cons (.comp .fz (.op .sub (.cons (.call "_law_draw" (.cons (.var 0) (.cons (.var 1) (.cons (.cst (.int 2001)) .nil)))) (.cons (.cst (.int 1000)) .nil))) [11] (.nm 11) (.rng1 (.cst (.int 6))) .none) .nil)))
  (.cons (.asg (.nm 5) (.op .tuple (.cons (.comp .fz (.op .sub (.cons (.call "_law_draw" (.cons (.var 0) (.cons (.var 1) (.cons (.cst (.int 2001)) .nil)))) (.cons (.cst (.int 1000)) .nil))) [11] (.nm 11) (.rng1 (.cst (.int 6))) .none) .nil)))
  (.cons (.asg (.nm 6) (.op .tuple (.cons (.comp .fz (.op .add (.cons (.var 12) (.cons (.var 13) .nil))) [12, 13] (.cn (.nm 12) (.cn (.nm 13) .nl)) (.zip (.var 4) (.var 5)) .none) .nil)))
  (.cons (.par [8, 9, 10] (.cons (.call "reckoned" (.cons (.var 3) (.cons (.var 4) .nil))) (.cons (.call "reckoned" (.cons (.var 3) (.cons (.var 5) .nil))) (.cons (.call "reckoned" (.cons (.var 3) (.cons (.var 6) .nil))) .nil))))
  (.cons (.iff (.op .ne (.cons (.op .idx (.cons (.var 10) (.cons (.cst (.int 0)) .nil))) (.cons (.op .tuple (.cons (.comp .fz (.op .add (.cons (.var 12) (.cons (.var 13) .nil))) [12, 13] (.cn (.nm 12) (.cn (.nm 13) .nl)) (.zip (.op .idx (.cons (.var 8) (.cons (.cst (.int 0)) .nil))) (.op .idx (.cons (.var 9) (.cons (.cst (.int 0)) .nil)))) .none) .nil)) .nil))) (.cons (.ret (.cst (.bl false)))
  .nil) .nil)
  (.cons (.iff (.or_ (.op .ne (.cons (.op .idx (.cons (.var 8) (.cons (.cst (.int 1)) .nil))) (.cons (.op .idx (.cons (.var 9) (.cons (.cst (.int 1)) .nil))) .nil))) (.op .ne (.cons (.op .idx (.cons (.var 8) (.cons (.cst (.int 1)) .nil))) (.cons (.op .idx (.cons (.var 10) (.cons (.cst (.int 1)) .nil))) .nil)))) (.cons (.ret (.cst (.bl false)))
  .nil) .nil)
  (.cons (.asg (.nm 7) (.call "reckoned" (.cons (.var 3) (.cons (.op .tuple (.cons (.comp .fz (.op .mul (.cons (.var 2) (.cons (.var 12) .nil))) [12] (.nm 12) (.seq (.var 4)) .none) .nil)) .nil))))
  (.cons (.iff (.op .ne (.cons (.var 7) (.cons (.tup (.cons (.op .tuple (.cons (.comp .fz (.op .mul (.cons (.var 2) (.cons (.var 12) .nil))) [12] (.nm 12) (.seq (.op .idx (.cons (.var 8) (.cons (.cst (.int 0)) .nil)))) .none) .nil)) (.cons (.op .idx (.cons (.var 8) (.cons (.cst (.int 1)) .nil))) .nil))) .nil))) (.cons (.ret (.cst (.bl false)))
  .nil) .nil)
  (.cons (.ret (.op .eq (.cons (.call "reckoned" (.cons (.var 3) (.cons (.op .mul (.cons (.tup (.cons (.cst (.int 0)) .nil)) (.cons (.cst (.int 6)) .nil))) .nil))) (.cons (.tup (.cons (.op .mul (.cons (.tup (.cons (.cst (.int 0)) .nil)) (.cons (.cst (.int 6)) .nil))) (.cons (.op .idx (.cons (.var 8) (.cons (.cst (.int 1)) .nil))) .nil))) .nil))))
  .nil))))))))))))⟩
theorem io_is_whole : fd_is_whole.io = [false, false, false] := rfl
theorem io_is_unit : fd_is_unit.io = [false] := rfl
theorem io_inner_of : fd_inner_of.io = [false] := rfl
theorem io_is_sum_row : fd_is_sum_row.io = [false] := rfl
theorem io_is_row : fd_is_row.io = [false, false] := rfl
theorem io_is_apart : fd_is_apart.io = [false] := rfl
theorem io_are_rows : fd_are_rows.io = [false, false] := rfl
theorem io_count_of : fd_count_of.io = [false] := rfl
theorem io_own_units : fd_own_units.io = [false] := rfl
theorem io_units_in : fd_units_in.io = [false] := rfl
theorem io_need_rows : fd_need_rows.io = [false] := rfl
theorem io_need_numbers : fd_need_numbers.io = [false] := rfl
theorem io_step_on : fd_step_on.io = [false, false] := rfl
theorem io_rows_done : fd_rows_done.io = [false, true, false] := rfl
theorem io_row_done : fd_row_done.io = [false, true, false] := rfl
theorem io_reckoned : fd_reckoned.io = [false, false] := rfl
theorem io__law_cell_at : fd__law_cell_at.io = [false, false] := rfl
theorem io__law_mixed : fd__law_mixed.io = [false, false, false] := rfl
theorem io__law_draw : fd__law_draw.io = [false, true, false] := rfl
theorem io__law_pick : fd__law_pick.io = [false, true, false] := rfl
theorem io__law_some_units : fd__law_some_units.io = [false, true, false] := rfl
theorem io__law_row : fd__law_row.io = [false, true, false, false, false] := rfl
theorem io__law_rows : fd__law_rows.io = [false, true, false, false, false, false] := rfl
theorem io__law_inner : fd__law_inner.io = [false] := rfl
theorem io__law_count : fd__law_count.io = [false] := rfl
theorem io__law_reckoning : fd__law_reckoning.io = [false, true, false, false] := rfl
theorem io_law : fd_law.io = [false] := rfl
end Py
set_option Elab.async false
set_option linter.all false
set_option maxRecDepth 100000
set_option maxHeartbeats 1000000
namespace Py
open PySem
theorem atI_some {α : Type} {xs : List α} {k : Int} (h0 : 0 ≤ k) (h1 : k < xs.length) : ∃ v, atI xs k = some v ∧ xs[k.toNat]? = some v := by
  have h2 : k.toNat < xs.length := by omega
  refine ⟨xs[k.toNat], ?_, List.getElem?_eq_getElem h2⟩
  unfold atI ixN
  rw [if_pos h0, if_pos h1]
  exact List.getElem?_eq_getElem h2
def cellAt (ns : List Int) (k : Int) : Int := if k < ns.length then (atI ns k).getD 0 else if ns = [] then 0 else (atI ns (k % ns.length)).getD 0 * 31 + k
theorem eqR_nil {ns : List Int} : (D.scr ns).eq? (.lst []) = some (decide (ns = [])) := by
  unfold D.eq?
  have : (D.scr ns).eqv (.lst []) = decide (ns = []) := by
    unfold D.eqv
    cases ns with
    | nil => rfl
    | cons a r => simp [eqL]
  rw [this]
  simp [D.plain, D.plains, D.depth, D.depths]
theorem law_cell_at {P : Prg} (h : P.fn "_law_cell_at" = some fd__law_cell_at) (n : Nat) (ns : List Int) (k : Int) (hk : 0 ≤ k) :
    callF P (n + 1) "_law_cell_at" [(.scr ns, .fz), (.int k, .fz)] = .ret (.int (cellAt ns k), .fz) [] := by
  refine Ret.eq (call_run h rfl ?_)
  by_cases c1 : k < ns.length
  · obtain ⟨v, e, _⟩ := atI_some hk c1
    simp [fd__law_cell_at, ↓rE_cst, ↓rE_glb, ↓rE_var, ↓rE_mov, ↓rE_tup, ↓rE_lst, ↓rE_op, ↓rE_ife, ↓rE_and, ↓rE_or, ↓rE_not, ↓rE_chain, ↓rE_call, ↓rE_mth, ↓rE_comp, ↓rE_dsp, ↓rO_var, ↓rO_op, ↓rO_cst, ↓rO_glb, ↓rO_mov, ↓rO_tup, ↓rO_lst, ↓rO_ife, ↓rO_and, ↓rO_or, ↓rO_not, ↓rO_chain, ↓rO_mth, ↓rO_call, ↓rO_comp, ↓rO_dsp, ↓rA_nil, ↓rA_cons, ↓rL_nil, ↓rL_cons, ↓rT_and, ↓rT_or, ↓rT_not, ↓rT_var, ↓rT_op, ↓rT_chain, ↓rT_call, ↓rT_cst, ↓rT_ife, ↓rI_seq, ↓rI_rng1, ↓rI_zip, ↓rB_nil, ↓rB_cons, ↓rS_asg, ↓rS_par, ↓rS_ex, ↓rS_ret, ↓rS_retN, ↓rS_iff, ↓rS_for, ↓rS_whl, ↓rS_rse, ↓rS_app, ↓rS_ext, ↓rS_sub, ↓run_pure, ↓run_bind, ↓run_ok, ↓run_exn, ↓run_bad, ↓r_getV, ↓got_some, ↓got_none, ↓got_map, ↓got_ite, ↓kB_bl, ↓gets_fz, ↓gets_un, ↓gets_tu, ↓movs_fz, ↓movs_un, ↓movs_tu, ↓next_next, ↓next_ret, ↓next_brk, ↓next_cnt, ↓ret_ret, ↓ret_exn, ↓ret_bad, ↓run_ite, ↓run_iteo, ↓run_of, ↓fin_ret, ↓fin_next, ↓finX_eq, ↓run_mbad, slot, rds, AV.rd, Own.simple, sv, Prim.run, Prim.ints, fzv, newl, outs, asgP, setAll, tupV, ownT, lstV, itemV, seqOf, lstOf, intOf, p_add, p_sub, p_mul, p_mod, p_fdiv, p_pow, p_neg, p_lt, p_le, p_gt, p_ge, p_isNone, p_notNone, p_idx, p_slLo, p_slHi, p_len, p_tuple, p_list, p_max2, p_min2, p_abs, p_int_, D.flat, passA, backA, takeA, frzA, cellAt, c1, e]
  · by_cases c2 : ns = []
    · subst c2
      simp [fd__law_cell_at, ↓rE_cst, ↓rE_glb, ↓rE_var, ↓rE_mov, ↓rE_tup, ↓rE_lst, ↓rE_op, ↓rE_ife, ↓rE_and, ↓rE_or, ↓rE_not, ↓rE_chain, ↓rE_call, ↓rE_mth, ↓rE_comp, ↓rE_dsp, ↓rO_var, ↓rO_op, ↓rO_cst, ↓rO_glb, ↓rO_mov, ↓rO_tup, ↓rO_lst, ↓rO_ife, ↓rO_and, ↓rO_or, ↓rO_not, ↓rO_chain, ↓rO_mth, ↓rO_call, ↓rO_comp, ↓rO_dsp, ↓rA_nil, ↓rA_cons, ↓rL_nil, ↓rL_cons, ↓rT_and, ↓rT_or, ↓rT_not, ↓rT_var, ↓rT_op, ↓rT_chain, ↓rT_call, ↓rT_cst, ↓rT_ife, ↓rI_seq, ↓rI_rng1, ↓rI_zip, ↓rB_nil, ↓rB_cons, ↓rS_asg, ↓rS_par, ↓rS_ex, ↓rS_ret, ↓rS_retN, ↓rS_iff, ↓rS_for, ↓rS_whl, ↓rS_rse, ↓rS_app, ↓rS_ext, ↓rS_sub, ↓run_pure, ↓run_bind, ↓run_ok, ↓run_exn, ↓run_bad, ↓r_getV, ↓got_some, ↓got_none, ↓got_map, ↓got_ite, ↓kB_bl, ↓gets_fz, ↓gets_un, ↓gets_tu, ↓movs_fz, ↓movs_un, ↓movs_tu, ↓next_next, ↓next_ret, ↓next_brk, ↓next_cnt, ↓ret_ret, ↓ret_exn, ↓ret_bad, ↓run_ite, ↓run_iteo, ↓run_of, ↓fin_ret, ↓fin_next, ↓finX_eq, ↓run_mbad, slot, rds, AV.rd, Own.simple, sv, Prim.run, Prim.ints, fzv, newl, outs, asgP, setAll, tupV, ownT, lstV, itemV, seqOf, lstOf, intOf, p_add, p_sub, p_mul, p_mod, p_fdiv, p_pow, p_neg, p_lt, p_le, p_gt, p_ge, p_isNone, p_notNone, p_idx, p_slLo, p_slHi, p_len, p_tuple, p_list, p_max2, p_min2, p_abs, p_int_, D.flat, passA, backA, takeA, frzA, cellAt, c1, p_eq, eqR_nil, big, show ¬ k < 0 by omega]
    · have hl : 0 < (ns.length : Int) := by
        have := List.length_pos_iff.mpr c2
        omega
      have hl' := List.length_pos_iff.mpr c2
      obtain ⟨v, e, _⟩ := atI_some (xs := ns) (k := k % ns.length) (Int.emod_nonneg _ (by omega)) (Int.emod_lt_of_pos _ hl)
      simp [fd__law_cell_at, ↓rE_cst, ↓rE_glb, ↓rE_var, ↓rE_mov, ↓rE_tup, ↓rE_lst, ↓rE_op, ↓rE_ife, ↓rE_and, ↓rE_or, ↓rE_not, ↓rE_chain, ↓rE_call, ↓rE_mth, ↓rE_comp, ↓rE_dsp, ↓rO_var, ↓rO_op, ↓rO_cst, ↓rO_glb, ↓rO_mov, ↓rO_tup, ↓rO_lst, ↓rO_ife, ↓rO_and, ↓rO_or, ↓rO_not, ↓rO_chain, ↓rO_mth, ↓rO_call, ↓rO_comp, ↓rO_dsp, ↓rA_nil, ↓rA_cons, ↓rL_nil, ↓rL_cons, ↓rT_and, ↓rT_or, ↓rT_not, ↓rT_var, ↓rT_op, ↓rT_chain, ↓rT_call, ↓rT_cst, ↓rT_ife, ↓rI_seq, ↓rI_rng1, ↓rI_zip, ↓rB_nil, ↓rB_cons, ↓rS_asg, ↓rS_par, ↓rS_ex, ↓rS_ret, ↓rS_retN, ↓rS_iff, ↓rS_for, ↓rS_whl, ↓rS_rse, ↓rS_app, ↓rS_ext, ↓rS_sub, ↓run_pure, ↓run_bind, ↓run_ok, ↓run_exn, ↓run_bad, ↓r_getV, ↓got_some, ↓got_none, ↓got_map, ↓got_ite, ↓kB_bl, ↓gets_fz, ↓gets_un, ↓gets_tu, ↓movs_fz, ↓movs_un, ↓movs_tu, ↓next_next, ↓next_ret, ↓next_brk, ↓next_cnt, ↓ret_ret, ↓ret_exn, ↓ret_bad, ↓run_ite, ↓run_iteo, ↓run_of, ↓fin_ret, ↓fin_next, ↓finX_eq, ↓run_mbad, slot, rds, AV.rd, Own.simple, sv, Prim.run, Prim.ints, fzv, newl, outs, asgP, setAll, tupV, ownT, lstV, itemV, seqOf, lstOf, intOf, p_add, p_sub, p_mul, p_mod, p_fdiv, p_pow, p_neg, p_lt, p_le, p_gt, p_ge, p_isNone, p_notNone, p_idx, p_slLo, p_slHi, p_len, p_tuple, p_list, p_max2, p_min2, p_abs, p_int_, D.flat, passA, backA, takeA, frzA, cellAt, c1, c2, p_eq, eqR_nil, big, hl, hl', e, tight]
def mixed (ns : List Int) (k many : Int) : Int := ((cellAt ns k * 1103515245 + 7919 * k + 12345) % 2147483647) ^ 5 % 2147483647 % 999983 % many
theorem law_mixed {P : Prg} (h : P.fn "_law_cell_at" = some fd__law_cell_at) (h2 : P.fn "_law_mixed" = some fd__law_mixed) (n : Nat) (ns : List Int) (k many : Int) (hk : 0 ≤ k) (hm : 0 < many) :
    callF P (n + 2) "_law_mixed" [(.scr ns, .fz), (.int k, .fz), (.int many, .fz)] = .ret (.int (mixed ns k many), .fz) [] := by
  refine Ret.eq (call_run h2 rfl ?_)
  have e := law_cell_at h n ns k hk
  have e2 : 0 ≤ (cellAt ns k * 1103515245 + 7919 * k + 12345) % 2147483647 := Int.emod_nonneg _ (by decide)
  have e3 : (cellAt ns k * 1103515245 + 7919 * k + 12345) % 2147483647 < 2147483647 := Int.emod_lt_of_pos _ (by decide)
  have e4 : ((cellAt ns k * 1103515245 + 7919 * k + 12345) % 2147483647).natAbs < 18446744073709551616 := by omega
  simp only [fd__law_mixed, ↓rE_cst, ↓rE_glb, ↓rE_var, ↓rE_mov, ↓rE_tup, ↓rE_lst, ↓rE_op, ↓rE_ife, ↓rE_and, ↓rE_or, ↓rE_not, ↓rE_chain, ↓rE_call, ↓rE_mth, ↓rE_comp, ↓rE_dsp, ↓rO_var, ↓rO_op, ↓rO_cst, ↓rO_glb, ↓rO_mov, ↓rO_tup, ↓rO_lst, ↓rO_ife, ↓rO_and, ↓rO_or, ↓rO_not, ↓rO_chain, ↓rO_mth, ↓rO_call, ↓rO_comp, ↓rO_dsp, ↓rA_nil, ↓rA_cons, ↓rL_nil, ↓rL_cons, ↓rT_and, ↓rT_or, ↓rT_not, ↓rT_var, ↓rT_op, ↓rT_chain, ↓rT_call, ↓rT_cst, ↓rT_ife, ↓rI_seq, ↓rI_rng1, ↓rI_zip, ↓rB_nil, ↓rB_cons, ↓rS_asg, ↓rS_par, ↓rS_ex, ↓rS_ret, ↓rS_retN, ↓rS_iff, ↓rS_for, ↓rS_whl, ↓rS_rse, ↓rS_app, ↓rS_ext, ↓rS_sub, ↓run_pure, ↓run_bind, ↓run_ok, ↓run_exn, ↓run_bad, ↓r_getV, ↓got_some, ↓got_none, ↓got_map, ↓got_ite, ↓kB_bl, ↓gets_fz, ↓gets_un, ↓gets_tu, ↓movs_fz, ↓movs_un, ↓movs_tu, ↓next_next, ↓next_ret, ↓next_brk, ↓next_cnt, ↓ret_ret, ↓ret_exn, ↓ret_bad, ↓run_ite, ↓run_iteo, ↓run_of, ↓fin_ret, ↓fin_next, ↓finX_eq, ↓run_mbad, slot, rds, AV.rd, Own.simple, sv, Prim.run, Prim.ints, fzv, newl, outs, asgP, setAll, tupV, ownT, lstV, itemV, seqOf, lstOf, intOf, p_add, p_sub, p_mul, p_mod, p_fdiv, p_pow, p_neg, p_lt, p_le, p_gt, p_ge, p_isNone, p_notNone, p_idx, p_slLo, p_slHi, p_len, p_tuple, p_list, p_max2, p_min2, p_abs, p_int_, D.flat, passA, backA, takeA, frzA, List.getElem?_cons_zero, List.getElem?_cons_succ, Option.bind_some, Option.bind_none, id_eq, ↓reduceIte, List.map_cons, List.map_nil, List.cons_append, List.nil_append, List.replicate, List.set_cons_zero, List.set_cons_succ, and_true, true_and, and_self, eq_self, List.length_cons, List.length_nil, Nat.reduceAdd, Nat.reduceLeDiff, Nat.reduceLT, Bool.true_eq_false, Bool.false_eq_true, decide_true, decide_false, if_true, if_false, decide_eq_true_eq, Bool.and_eq_true, Bool.or_eq_true, List.all_cons, List.all_nil, Bool.and_true, Bool.and_self, ↓run_callG h, ↓io__law_cell_at, e, show tight 1103515245 = true by decide, show tight 7919 = true by decide, hm, mixed, or_true, true_or]
  rw [if_pos (by decide), if_pos ⟨by decide, by decide, by rw [show (2 : Nat) ^ 64 = 18446744073709551616 by decide]; exact e4⟩, if_pos (by decide), if_pos (by decide)]
  rfl
/-- the town: how many draws were made -/
def town (ts : List D) : Val := (.lst ts, .un .fz)
structure HasDraw (P : Prg) : Prop where
  cell : P.fn "_law_cell_at" = some fd__law_cell_at
  mixed : P.fn "_law_mixed" = some fd__law_mixed
  draw : P.fn "_law_draw" = some fd__law_draw
  pick : P.fn "_law_pick" = some fd__law_pick
theorem mixed_lt (ns : List Int) (k : Int) {many : Int} (h : 0 < many) : 0 ≤ mixed ns k many ∧ mixed ns k many < many := ⟨Int.emod_nonneg _ (by omega), Int.emod_lt_of_pos _ h⟩
def drawn (ns : List Int) (ts : List D) (many : Int) : Int := mixed ns ((ts.length : Int) + 1) many
theorem drawn_lt (ns : List Int) (ts : List D) {many : Int} (h : 0 < many) : 0 ≤ drawn ns ts many ∧ drawn ns ts many < many := mixed_lt ns _ h
theorem law_draw {P : Prg} (h : HasDraw P) (n : Nat) (ns : List Int) (ts : List D) (many : Int) (hm : 0 < many) (ht : ts.length < 1000000) :
    callF P (n + 3) "_law_draw" [(.scr ns, .fz), town ts, (.int many, .fz)] = .ret (.int (drawn ns ts many), .fz) [town (ts ++ [.int 0])] := by
  refine Ret.eq (call_run h.draw rfl ?_)
  have e := law_mixed h.cell h.mixed n ns ((ts.length : Int) + 1) many (by omega) hm
  simp only [fd__law_draw, town, ↓rE_cst, ↓rE_glb, ↓rE_var, ↓rE_mov, ↓rE_tup, ↓rE_lst, ↓rE_op, ↓rE_ife, ↓rE_and, ↓rE_or, ↓rE_not, ↓rE_chain, ↓rE_call, ↓rE_mth, ↓rE_comp, ↓rE_dsp, ↓rO_var, ↓rO_op, ↓rO_cst, ↓rO_glb, ↓rO_mov, ↓rO_tup, ↓rO_lst, ↓rO_ife, ↓rO_and, ↓rO_or, ↓rO_not, ↓rO_chain, ↓rO_mth, ↓rO_call, ↓rO_comp, ↓rO_dsp, ↓rA_nil, ↓rA_cons, ↓rL_nil, ↓rL_cons, ↓rT_and, ↓rT_or, ↓rT_not, ↓rT_var, ↓rT_op, ↓rT_chain, ↓rT_call, ↓rT_cst, ↓rT_ife, ↓rI_seq, ↓rI_rng1, ↓rI_zip, ↓rB_nil, ↓rB_cons, ↓rS_asg, ↓rS_par, ↓rS_ex, ↓rS_ret, ↓rS_retN, ↓rS_iff, ↓rS_for, ↓rS_whl, ↓rS_rse, ↓rS_app, ↓rS_ext, ↓rS_sub, ↓run_pure, ↓run_bind, ↓run_ok, ↓run_exn, ↓run_bad, ↓r_getV, ↓got_some, ↓got_none, ↓got_map, ↓got_ite, ↓kB_bl, ↓gets_fz, ↓gets_un, ↓gets_tu, ↓movs_fz, ↓movs_un, ↓movs_tu, ↓next_next, ↓next_ret, ↓next_brk, ↓next_cnt, ↓ret_ret, ↓ret_exn, ↓ret_bad, ↓run_ite, ↓run_iteo, ↓run_of, ↓fin_ret, ↓fin_next, ↓finX_eq, ↓run_mbad, slot, rds, AV.rd, Own.simple, sv, Prim.run, Prim.ints, fzv, newl, outs, asgP, setAll, tupV, ownT, lstV, itemV, seqOf, lstOf, intOf, p_add, p_sub, p_mul, p_mod, p_fdiv, p_pow, p_neg, p_lt, p_le, p_gt, p_ge, p_isNone, p_notNone, p_idx, p_slLo, p_slHi, p_len, p_tuple, p_list, p_max2, p_min2, p_abs, p_int_, D.flat, passA, backA, takeA, frzA, List.getElem?_cons_zero, List.getElem?_cons_succ, Option.bind_some, Option.bind_none, id_eq, ↓reduceIte, List.map_cons, List.map_nil, List.cons_append, List.nil_append, List.replicate, List.set_cons_zero, List.set_cons_succ, and_true, true_and, and_self, eq_self, List.length_cons, List.length_nil, Nat.reduceAdd, Nat.reduceLeDiff, Nat.reduceLT, Bool.true_eq_false, Bool.false_eq_true, decide_true, decide_false, if_true, if_false, decide_eq_true_eq, Bool.and_eq_true, Bool.or_eq_true, List.all_cons, List.all_nil, Bool.and_true, Bool.and_self, ↓run_callG h.mixed, ↓io__law_mixed]
  refine ⟨⟨_, _, rfl⟩, ts, .fz, rfl, ?_⟩
  simp only [↓rE_cst, ↓rE_glb, ↓rE_var, ↓rE_mov, ↓rE_tup, ↓rE_lst, ↓rE_op, ↓rE_ife, ↓rE_and, ↓rE_or, ↓rE_not, ↓rE_chain, ↓rE_call, ↓rE_mth, ↓rE_comp, ↓rE_dsp, ↓rO_var, ↓rO_op, ↓rO_cst, ↓rO_glb, ↓rO_mov, ↓rO_tup, ↓rO_lst, ↓rO_ife, ↓rO_and, ↓rO_or, ↓rO_not, ↓rO_chain, ↓rO_mth, ↓rO_call, ↓rO_comp, ↓rO_dsp, ↓rA_nil, ↓rA_cons, ↓rL_nil, ↓rL_cons, ↓rT_and, ↓rT_or, ↓rT_not, ↓rT_var, ↓rT_op, ↓rT_chain, ↓rT_call, ↓rT_cst, ↓rT_ife, ↓rI_seq, ↓rI_rng1, ↓rI_zip, ↓rB_nil, ↓rB_cons, ↓rS_asg, ↓rS_par, ↓rS_ex, ↓rS_ret, ↓rS_retN, ↓rS_iff, ↓rS_for, ↓rS_whl, ↓rS_rse, ↓rS_app, ↓rS_ext, ↓rS_sub, ↓run_pure, ↓run_bind, ↓run_ok, ↓run_exn, ↓run_bad, ↓r_getV, ↓got_some, ↓got_none, ↓got_map, ↓got_ite, ↓kB_bl, ↓gets_fz, ↓gets_un, ↓gets_tu, ↓movs_fz, ↓movs_un, ↓movs_tu, ↓next_next, ↓next_ret, ↓next_brk, ↓next_cnt, ↓ret_ret, ↓ret_exn, ↓ret_bad, ↓run_ite, ↓run_iteo, ↓run_of, ↓fin_ret, ↓fin_next, ↓finX_eq, ↓run_mbad, slot, rds, AV.rd, Own.simple, sv, Prim.run, Prim.ints, fzv, newl, outs, asgP, setAll, tupV, ownT, lstV, itemV, seqOf, lstOf, intOf, p_add, p_sub, p_mul, p_mod, p_fdiv, p_pow, p_neg, p_lt, p_le, p_gt, p_ge, p_isNone, p_notNone, p_idx, p_slLo, p_slHi, p_len, p_tuple, p_list, p_max2, p_min2, p_abs, p_int_, D.flat, passA, backA, takeA, frzA, List.getElem?_cons_zero, List.getElem?_cons_succ, Option.bind_some, Option.bind_none, id_eq, ↓reduceIte, List.map_cons, List.map_nil, List.cons_append, List.nil_append, List.replicate, List.set_cons_zero, List.set_cons_succ, and_true, true_and, and_self, eq_self, List.length_cons, List.length_nil, Nat.reduceAdd, Nat.reduceLeDiff, Nat.reduceLT, Bool.true_eq_false, Bool.false_eq_true, decide_true, decide_false, if_true, if_false, decide_eq_true_eq, Bool.and_eq_true, Bool.or_eq_true, List.all_cons, List.all_nil, Bool.and_true, Bool.and_self, if_true, big, ht, ↓run_callG h.mixed, ↓io__law_mixed]
  have e' : callF P (n + 2) "_law_mixed" [(.scr ns, .fz), (.int ((ts ++ [D.int 0]).length : Nat), .fz), (.int many, .fz)] = .ret (.int (drawn ns ts many), .fz) [] := by
    rw [List.length_append]
    exact e
  rw [e']
  exact ⟨rfl, rfl⟩
/-- a sequence -/
inductive Sq (ds : List D) : D → Prop
  | tup : Sq ds (.tup ds)
  | lst : Sq ds (.lst ds)
theorem law_pick {P : Prg} (h : HasDraw P) (n : Nat) (ns : List Int) (ts : List D) {ds : List D} {x : D} (hs : Sq ds x) (hd : 0 < ds.length) (ht : ts.length < 1000000) :
    ∃ (j : Nat) (d : D), ds[j]? = some d ∧ callF P (n + 4) "_law_pick" [(.scr ns, .fz), town ts, (x, .fz)] = .ret (d, .fz) [town (ts ++ [.int 0])] := by
  have hl : 0 < (ds.length : Int) := by omega
  have e := law_draw h n ns ts ds.length hl ht
  obtain ⟨d0, d1⟩ := drawn_lt ns ts hl
  obtain ⟨v, v1, v2⟩ := atI_some d0 d1
  refine ⟨_, v, v2, Ret.eq (call_run h.pick rfl ?_)⟩
  unfold town at e ⊢
  cases hs with
  | tup => simp only [fd__law_pick, ↓rE_cst, ↓rE_glb, ↓rE_var, ↓rE_mov, ↓rE_tup, ↓rE_lst, ↓rE_op, ↓rE_ife, ↓rE_and, ↓rE_or, ↓rE_not, ↓rE_chain, ↓rE_call, ↓rE_mth, ↓rE_comp, ↓rE_dsp, ↓rO_var, ↓rO_op, ↓rO_cst, ↓rO_glb, ↓rO_mov, ↓rO_tup, ↓rO_lst, ↓rO_ife, ↓rO_and, ↓rO_or, ↓rO_not, ↓rO_chain, ↓rO_mth, ↓rO_call, ↓rO_comp, ↓rO_dsp, ↓rA_nil, ↓rA_cons, ↓rL_nil, ↓rL_cons, ↓rT_and, ↓rT_or, ↓rT_not, ↓rT_var, ↓rT_op, ↓rT_chain, ↓rT_call, ↓rT_cst, ↓rT_ife, ↓rI_seq, ↓rI_rng1, ↓rI_zip, ↓rB_nil, ↓rB_cons, ↓rS_asg, ↓rS_par, ↓rS_ex, ↓rS_ret, ↓rS_retN, ↓rS_iff, ↓rS_for, ↓rS_whl, ↓rS_rse, ↓rS_app, ↓rS_ext, ↓rS_sub, ↓run_pure, ↓run_bind, ↓run_ok, ↓run_exn, ↓run_bad, ↓r_getV, ↓got_some, ↓got_none, ↓got_map, ↓got_ite, ↓kB_bl, ↓gets_fz, ↓gets_un, ↓gets_tu, ↓movs_fz, ↓movs_un, ↓movs_tu, ↓next_next, ↓next_ret, ↓next_brk, ↓next_cnt, ↓ret_ret, ↓ret_exn, ↓ret_bad, ↓run_ite, ↓run_iteo, ↓run_of, ↓fin_ret, ↓fin_next, ↓finX_eq, ↓run_mbad, slot, rds, AV.rd, Own.simple, sv, Prim.run, Prim.ints, fzv, newl, outs, asgP, setAll, tupV, ownT, lstV, itemV, seqOf, lstOf, intOf, p_add, p_sub, p_mul, p_mod, p_fdiv, p_pow, p_neg, p_lt, p_le, p_gt, p_ge, p_isNone, p_notNone, p_idx, p_slLo, p_slHi, p_len, p_tuple, p_list, p_max2, p_min2, p_abs, p_int_, D.flat, passA, backA, takeA, frzA, List.getElem?_cons_zero, List.getElem?_cons_succ, Option.bind_some, Option.bind_none, id_eq, ↓reduceIte, List.map_cons, List.map_nil, List.cons_append, List.nil_append, List.replicate, List.set_cons_zero, List.set_cons_succ, and_true, true_and, and_self, eq_self, List.length_cons, List.length_nil, Nat.reduceAdd, Nat.reduceLeDiff, Nat.reduceLT, Bool.true_eq_false, Bool.false_eq_true, decide_true, decide_false, if_true, if_false, decide_eq_true_eq, Bool.and_eq_true, Bool.or_eq_true, List.all_cons, List.all_nil, Bool.and_true, Bool.and_self, ↓run_callG h.draw, ↓io__law_draw, e, v1, Option.map_some]
  | lst => simp only [fd__law_pick, ↓rE_cst, ↓rE_glb, ↓rE_var, ↓rE_mov, ↓rE_tup, ↓rE_lst, ↓rE_op, ↓rE_ife, ↓rE_and, ↓rE_or, ↓rE_not, ↓rE_chain, ↓rE_call, ↓rE_mth, ↓rE_comp, ↓rE_dsp, ↓rO_var, ↓rO_op, ↓rO_cst, ↓rO_glb, ↓rO_mov, ↓rO_tup, ↓rO_lst, ↓rO_ife, ↓rO_and, ↓rO_or, ↓rO_not, ↓rO_chain, ↓rO_mth, ↓rO_call, ↓rO_comp, ↓rO_dsp, ↓rA_nil, ↓rA_cons, ↓rL_nil, ↓rL_cons, ↓rT_and, ↓rT_or, ↓rT_not, ↓rT_var, ↓rT_op, ↓rT_chain, ↓rT_call, ↓rT_cst, ↓rT_ife, ↓rI_seq, ↓rI_rng1, ↓rI_zip, ↓rB_nil, ↓rB_cons, ↓rS_asg, ↓rS_par, ↓rS_ex, ↓rS_ret, ↓rS_retN, ↓rS_iff, ↓rS_for, ↓rS_whl, ↓rS_rse, ↓rS_app, ↓rS_ext, ↓rS_sub, ↓run_pure, ↓run_bind, ↓run_ok, ↓run_exn, ↓run_bad, ↓r_getV, ↓got_some, ↓got_none, ↓got_map, ↓got_ite, ↓kB_bl, ↓gets_fz, ↓gets_un, ↓gets_tu, ↓movs_fz, ↓movs_un, ↓movs_tu, ↓next_next, ↓next_ret, ↓next_brk, ↓next_cnt, ↓ret_ret, ↓ret_exn, ↓ret_bad, ↓run_ite, ↓run_iteo, ↓run_of, ↓fin_ret, ↓fin_next, ↓finX_eq, ↓run_mbad, slot, rds, AV.rd, Own.simple, sv, Prim.run, Prim.ints, fzv, newl, outs, asgP, setAll, tupV, ownT, lstV, itemV, seqOf, lstOf, intOf, p_add, p_sub, p_mul, p_mod, p_fdiv, p_pow, p_neg, p_lt, p_le, p_gt, p_ge, p_isNone, p_notNone, p_idx, p_slLo, p_slHi, p_len, p_tuple, p_list, p_max2, p_min2, p_abs, p_int_, D.flat, passA, backA, takeA, frzA, List.getElem?_cons_zero, List.getElem?_cons_succ, Option.bind_some, Option.bind_none, id_eq, ↓reduceIte, List.map_cons, List.map_nil, List.cons_append, List.nil_append, List.replicate, List.set_cons_zero, List.set_cons_succ, and_true, true_and, and_self, eq_self, List.length_cons, List.length_nil, Nat.reduceAdd, Nat.reduceLeDiff, Nat.reduceLT, Bool.true_eq_false, Bool.false_eq_true, decide_true, decide_false, if_true, if_false, decide_eq_true_eq, Bool.and_eq_true, Bool.or_eq_true, List.all_cons, List.all_nil, Bool.and_true, Bool.and_self, ↓run_callG h.draw, ↓io__law_draw, e, v1, Option.map_some]
end Py

set_option Elab.async false
set_option linter.all false
set_option maxRecDepth 100000
set_option maxHeartbeats 1000000
namespace Py
open PySem
theorem eq_int (a b : Int) : (D.int a).eq? (.int b) = some (decide (a = b)) := by
  unfold D.eq?
  simp [D.plain, D.depth, D.eqv]
  by_cases h : a = b <;> simp [h]
def intsD (us : List Int) : List D := us.map D.int
theorem ints_flat (us : List Int) : (intsD us).all D.flat = true := by
  unfold intsD
  rw [List.all_map, List.all_eq_true]
  intro x _
  rfl
theorem ints_get {us : List Int} {j : Nat} {d : D} (h : (intsD us)[j]? = some d) : ∃ a, d = .int a ∧ us[j]? = some a := by
  unfold intsD at h
  rw [List.getElem?_map] at h
  cases e : us[j]? with
  | none => rw [e] at h; cases h
  | some a => rw [e] at h; cases h; exact ⟨a, rfl, rfl⟩
theorem findEq_ints (a : Int) : ∀ (us : List Int) (n : Nat), a ∈ us → ∃ j, findEq (.int a) (intsD us) n = some (n + j) ∧ us[j]? = some a
  | [], n, h => (List.not_mem_nil h).elim
  | u :: us, n, h => by
    show ∃ j, findEq (.int a) (.int u :: intsD us) n = some (n + j) ∧ _
    unfold findEq
    by_cases e : u = a
    · subst e
      refine ⟨0, ?_, rfl⟩
      rw [if_pos (by simp [D.eqv])]
      rfl
    · rw [if_neg (by simp [D.eqv, e])]
      rcases List.mem_cons.mp h with q | q
      · exact absurd q.symm e
      · obtain ⟨j, h1, h2⟩ := findEq_ints a us (n + 1) q
        exact ⟨j + 1, by rw [h1]; congr 1; omega, by simpa using h2⟩
theorem nodup_next {us : List Int} (hn : us.Nodup) {j : Nat} {a b : Int} (h1 : us[j]? = some a) (h2 : us[(j + 1) % us.length]? = some b) (hl : 1 < us.length) : a ≠ b := by
  intro e
  subst e
  have hj : j < us.length := (List.getElem?_eq_some_iff.mp h1).1
  have q := (List.getElem?_inj hj hn).mp (h1.trans h2.symm)
  by_cases c : j + 1 < us.length
  · rw [Nat.mod_eq_of_lt c] at q; omega
  · have : j + 1 = us.length := by omega
    rw [this, Nat.mod_self] at q
    omega
def zs (k : Nat) : List D := List.replicate k (.int 0)
theorem zs1 (ts : List D) (k : Nat) : ts ++ zs k ++ [.int 0] = ts ++ zs (k + 1) := by
  unfold zs
  rw [List.append_assoc, ← List.replicate_succ']
structure HasU (P : Prg) : Prop extends HasDraw P where
  units : P.fn "_law_some_units" = some fd__law_some_units
theorem law_some_units {P : Prg} (h : HasU P) (n : Nat) (ns : List Int) (ts : List D) (us : List Int) (hu : 0 < us.length) (hn : us.Nodup) (ht : ts.length < 999990) :
    ∃ a b, a ∈ us ∧ b ∈ us ∧ (a ≠ b ∨ us.length = 1) ∧ callF P (n + 5) "_law_some_units" [(.scr ns, .fz), town ts, (.tup (intsD us), .fz)] = .ret (.tup [.int a, .int b], .fz) [town (ts ++ zs 2)] := by
  have hd : 0 < (intsD us).length := by unfold intsD; rw [List.length_map]; exact hu
  have hd' : (intsD us).length = us.length := by unfold intsD; rw [List.length_map]
  obtain ⟨j1, d1, g1, e1⟩ := law_pick h.toHasDraw n ns ts Sq.tup hd (by omega)
  obtain ⟨j2, d2, g2, e2⟩ := law_pick h.toHasDraw n ns (ts ++ [.int 0]) Sq.tup hd (by rw [List.length_append]; show ts.length + 1 < _; omega)
  obtain ⟨a, rfl, m1⟩ := ints_get g1
  obtain ⟨b, rfl, m2⟩ := ints_get g2
  have ma := List.mem_of_getElem? m1
  have mb := List.mem_of_getElem? m2
  have ez : ts ++ [D.int 0] ++ [D.int 0] = ts ++ zs 2 := by unfold zs; rw [List.append_assoc]; rfl
  rw [ez] at e2
  unfold town at e1 e2 ⊢
  by_cases c : a = b
  · obtain ⟨j, f1, f2⟩ := findEq_ints a us 0 ma
    have hj := (List.getElem?_eq_some_iff.mp f2).1
    have hm : (j + 1) % us.length < us.length := Nat.mod_lt _ hu
    have f3 : us[(j + 1) % us.length]? = some us[(j + 1) % us.length] := List.getElem?_eq_getElem hm
    refine ⟨a, us[(j + 1) % us.length], ma, List.getElem_mem hm, ?_, Ret.eq (call_run h.units rfl ?_)⟩
    · by_cases c2 : us.length = 1
      · exact .inr c2
      · exact .inl (nodup_next hn f2 f3 (by omega))
    · subst c
      have f4 : atI (intsD us) (((0 + j : Nat) + 1 : Int) % (us.length : Int)) = some (.int us[(j + 1) % us.length]) := by
        obtain ⟨v, v1, v2⟩ := atI_some (xs := intsD us) (k := ((0 + j : Nat) + 1 : Int) % (us.length : Int)) (Int.emod_nonneg _ (by omega)) (by rw [hd']; exact Int.emod_lt_of_pos _ (by omega))
        rw [v1]
        have : (((0 + j : Nat) + 1 : Int) % (us.length : Int)).toNat = (j + 1) % us.length := by
          rw [Nat.zero_add]
          have : ((j : Int) + 1) % (us.length : Int) = ((j + 1) % us.length : Nat) := by
            rw [Int.natCast_emod]
            rfl
          rw [this]
          rfl
        rw [this] at v2
        unfold intsD at v2
        rw [List.getElem?_map, f3] at v2
        exact v2.symm
      have hp : 0 < (us.length : Int) := by omega
      simp only [fd__law_some_units, ↓rE_cst, ↓rE_glb, ↓rE_var, ↓rE_mov, ↓rE_tup, ↓rE_lst, ↓rE_op, ↓rE_ife, ↓rE_and, ↓rE_or, ↓rE_not, ↓rE_chain, ↓rE_call, ↓rE_mth, ↓rE_comp, ↓rE_dsp, ↓rO_var, ↓rO_op, ↓rO_cst, ↓rO_glb, ↓rO_mov, ↓rO_tup, ↓rO_lst, ↓rO_ife, ↓rO_and, ↓rO_or, ↓rO_not, ↓rO_chain, ↓rO_mth, ↓rO_call, ↓rO_comp, ↓rO_dsp, ↓rA_nil, ↓rA_cons, ↓rL_nil, ↓rL_cons, ↓rT_and, ↓rT_or, ↓rT_not, ↓rT_var, ↓rT_op, ↓rT_chain, ↓rT_call, ↓rT_cst, ↓rT_ife, ↓rI_seq, ↓rI_rng1, ↓rI_zip, ↓rB_nil, ↓rB_cons, ↓rS_asg, ↓rS_par, ↓rS_ex, ↓rS_ret, ↓rS_retN, ↓rS_iff, ↓rS_for, ↓rS_whl, ↓rS_rse, ↓rS_app, ↓rS_ext, ↓rS_sub, ↓run_pure, ↓run_bind, ↓run_ok, ↓run_exn, ↓run_bad, ↓r_getV, ↓got_some, ↓got_none, ↓got_map, ↓got_ite, ↓kB_bl, ↓gets_fz, ↓gets_un, ↓gets_tu, ↓movs_fz, ↓movs_un, ↓movs_tu, ↓next_next, ↓next_ret, ↓next_brk, ↓next_cnt, ↓ret_ret, ↓ret_exn, ↓ret_bad, ↓run_ite, ↓run_iteo, ↓run_of, ↓fin_ret, ↓fin_next, ↓finX_eq, ↓run_mbad, slot, rds, AV.rd, Own.simple, sv, Prim.run, Prim.ints, fzv, newl, outs, asgP, setAll, tupV, ownT, lstV, itemV, seqOf, lstOf, intOf, p_add, p_sub, p_mul, p_mod, p_fdiv, p_pow, p_neg, p_lt, p_le, p_gt, p_ge, p_isNone, p_notNone, p_idx, p_slLo, p_slHi, p_len, p_tuple, p_list, p_max2, p_min2, p_abs, p_int_, D.flat, passA, backA, takeA, frzA, List.getElem?_cons_zero, List.getElem?_cons_succ, Option.bind_some, Option.bind_none, id_eq, ↓reduceIte, List.map_cons, List.map_nil, List.cons_append, List.nil_append, List.replicate, List.set_cons_zero, List.set_cons_succ, and_true, true_and, and_self, eq_self, List.length_cons, List.length_nil, Nat.reduceAdd, Nat.reduceLeDiff, Nat.reduceLT, Bool.true_eq_false, Bool.false_eq_true, decide_true, decide_false, if_true, if_false, decide_eq_true_eq, Bool.and_eq_true, Bool.or_eq_true, List.all_cons, List.all_nil, Bool.and_true, Bool.and_self, ↓run_callG h.pick, ↓io__law_pick, e1, e2, p_eq, eq_int, Option.map_some, D.kind, Prim.kind, p_tindex, ints_flat, f1, hd', f4, hp]
      rw [show (do let a ← some (0 + j); pure ((a : Nat) : Int) : Option Int) = some ((0 + j : Nat) : Int) from rfl, got_some]
      simp only [↓rE_cst, ↓rE_glb, ↓rE_var, ↓rE_mov, ↓rE_tup, ↓rE_lst, ↓rE_op, ↓rE_ife, ↓rE_and, ↓rE_or, ↓rE_not, ↓rE_chain, ↓rE_call, ↓rE_mth, ↓rE_comp, ↓rE_dsp, ↓rO_var, ↓rO_op, ↓rO_cst, ↓rO_glb, ↓rO_mov, ↓rO_tup, ↓rO_lst, ↓rO_ife, ↓rO_and, ↓rO_or, ↓rO_not, ↓rO_chain, ↓rO_mth, ↓rO_call, ↓rO_comp, ↓rO_dsp, ↓rA_nil, ↓rA_cons, ↓rL_nil, ↓rL_cons, ↓rT_and, ↓rT_or, ↓rT_not, ↓rT_var, ↓rT_op, ↓rT_chain, ↓rT_call, ↓rT_cst, ↓rT_ife, ↓rI_seq, ↓rI_rng1, ↓rI_zip, ↓rB_nil, ↓rB_cons, ↓rS_asg, ↓rS_par, ↓rS_ex, ↓rS_ret, ↓rS_retN, ↓rS_iff, ↓rS_for, ↓rS_whl, ↓rS_rse, ↓rS_app, ↓rS_ext, ↓rS_sub, ↓run_pure, ↓run_bind, ↓run_ok, ↓run_exn, ↓run_bad, ↓r_getV, ↓got_some, ↓got_none, ↓got_map, ↓got_ite, ↓kB_bl, ↓gets_fz, ↓gets_un, ↓gets_tu, ↓movs_fz, ↓movs_un, ↓movs_tu, ↓next_next, ↓next_ret, ↓next_brk, ↓next_cnt, ↓ret_ret, ↓ret_exn, ↓ret_bad, ↓run_ite, ↓run_iteo, ↓run_of, ↓fin_ret, ↓fin_next, ↓finX_eq, ↓run_mbad, slot, rds, AV.rd, Own.simple, sv, Prim.run, Prim.ints, fzv, newl, outs, asgP, setAll, tupV, ownT, lstV, itemV, seqOf, lstOf, intOf, p_add, p_sub, p_mul, p_mod, p_fdiv, p_pow, p_neg, p_lt, p_le, p_gt, p_ge, p_isNone, p_notNone, p_idx, p_slLo, p_slHi, p_len, p_tuple, p_list, p_max2, p_min2, p_abs, p_int_, D.flat, passA, backA, takeA, frzA, List.getElem?_cons_zero, List.getElem?_cons_succ, Option.bind_some, Option.bind_none, id_eq, ↓reduceIte, List.map_cons, List.map_nil, List.cons_append, List.nil_append, List.replicate, List.set_cons_zero, List.set_cons_succ, and_true, true_and, and_self, eq_self, List.length_cons, List.length_nil, Nat.reduceAdd, Nat.reduceLeDiff, Nat.reduceLT, Bool.true_eq_false, Bool.false_eq_true, decide_true, decide_false, if_true, if_false, decide_eq_true_eq, Bool.and_eq_true, Bool.or_eq_true, List.all_cons, List.all_nil, Bool.and_true, Bool.and_self, hd', f4, hp]
      decide
  · refine ⟨a, b, ma, mb, .inl c, Ret.eq (call_run h.units rfl ?_)⟩
    simp only [fd__law_some_units, ↓rE_cst, ↓rE_glb, ↓rE_var, ↓rE_mov, ↓rE_tup, ↓rE_lst, ↓rE_op, ↓rE_ife, ↓rE_and, ↓rE_or, ↓rE_not, ↓rE_chain, ↓rE_call, ↓rE_mth, ↓rE_comp, ↓rE_dsp, ↓rO_var, ↓rO_op, ↓rO_cst, ↓rO_glb, ↓rO_mov, ↓rO_tup, ↓rO_lst, ↓rO_ife, ↓rO_and, ↓rO_or, ↓rO_not, ↓rO_chain, ↓rO_mth, ↓rO_call, ↓rO_comp, ↓rO_dsp, ↓rA_nil, ↓rA_cons, ↓rL_nil, ↓rL_cons, ↓rT_and, ↓rT_or, ↓rT_not, ↓rT_var, ↓rT_op, ↓rT_chain, ↓rT_call, ↓rT_cst, ↓rT_ife, ↓rI_seq, ↓rI_rng1, ↓rI_zip, ↓rB_nil, ↓rB_cons, ↓rS_asg, ↓rS_par, ↓rS_ex, ↓rS_ret, ↓rS_retN, ↓rS_iff, ↓rS_for, ↓rS_whl, ↓rS_rse, ↓rS_app, ↓rS_ext, ↓rS_sub, ↓run_pure, ↓run_bind, ↓run_ok, ↓run_exn, ↓run_bad, ↓r_getV, ↓got_some, ↓got_none, ↓got_map, ↓got_ite, ↓kB_bl, ↓gets_fz, ↓gets_un, ↓gets_tu, ↓movs_fz, ↓movs_un, ↓movs_tu, ↓next_next, ↓next_ret, ↓next_brk, ↓next_cnt, ↓ret_ret, ↓ret_exn, ↓ret_bad, ↓run_ite, ↓run_iteo, ↓run_of, ↓fin_ret, ↓fin_next, ↓finX_eq, ↓run_mbad, slot, rds, AV.rd, Own.simple, sv, Prim.run, Prim.ints, fzv, newl, outs, asgP, setAll, tupV, ownT, lstV, itemV, seqOf, lstOf, intOf, p_add, p_sub, p_mul, p_mod, p_fdiv, p_pow, p_neg, p_lt, p_le, p_gt, p_ge, p_isNone, p_notNone, p_idx, p_slLo, p_slHi, p_len, p_tuple, p_list, p_max2, p_min2, p_abs, p_int_, D.flat, passA, backA, takeA, frzA, List.getElem?_cons_zero, List.getElem?_cons_succ, Option.bind_some, Option.bind_none, id_eq, ↓reduceIte, List.map_cons, List.map_nil, List.cons_append, List.nil_append, List.replicate, List.set_cons_zero, List.set_cons_succ, and_true, true_and, and_self, eq_self, List.length_cons, List.length_nil, Nat.reduceAdd, Nat.reduceLeDiff, Nat.reduceLT, Bool.true_eq_false, Bool.false_eq_true, decide_true, decide_false, if_true, if_false, decide_eq_true_eq, Bool.and_eq_true, Bool.or_eq_true, List.all_cons, List.all_nil, Bool.and_true, Bool.and_self, ↓run_callG h.pick, ↓io__law_pick, e1, e2, p_eq, eq_int, Option.map_some, c]
    decide
end Py

set_option Elab.async false
set_option linter.all false
set_option maxRecDepth 100000
set_option maxHeartbeats 1000000
namespace Py
open PySem
/-! ### texts -/
theorem se_add_add : (D.str "add").eq? (.str "add") = some true := by decide +kernel
theorem se_add_less : (D.str "add").eq? (.str "less") = some false := by decide +kernel
theorem ss_add_less : (("add" : Str) == "less") = false := by decide +kernel
theorem se_add_zero : (D.str "add").eq? (.str "zero") = some false := by decide +kernel
theorem ss_add_zero : (("add" : Str) == "zero") = false := by decide +kernel
theorem se_add_if : (D.str "add").eq? (.str "if") = some false := by decide +kernel
theorem ss_add_if : (("add" : Str) == "if") = false := by decide +kernel
theorem se_add_while : (D.str "add").eq? (.str "while") = some false := by decide +kernel
theorem ss_add_while : (("add" : Str) == "while") = false := by decide +kernel
theorem se_add_beside : (D.str "add").eq? (.str "beside") = some false := by decide +kernel
theorem ss_add_beside : (("add" : Str) == "beside") = false := by decide +kernel
theorem se_less_less : (D.str "less").eq? (.str "less") = some true := by decide +kernel
theorem se_less_add : (D.str "less").eq? (.str "add") = some false := by decide +kernel
theorem ss_less_add : (("less" : Str) == "add") = false := by decide +kernel
theorem se_less_zero : (D.str "less").eq? (.str "zero") = some false := by decide +kernel
theorem ss_less_zero : (("less" : Str) == "zero") = false := by decide +kernel
theorem se_less_if : (D.str "less").eq? (.str "if") = some false := by decide +kernel
theorem ss_less_if : (("less" : Str) == "if") = false := by decide +kernel
theorem se_less_while : (D.str "less").eq? (.str "while") = some false := by decide +kernel
theorem ss_less_while : (("less" : Str) == "while") = false := by decide +kernel
theorem se_less_beside : (D.str "less").eq? (.str "beside") = some false := by decide +kernel
theorem ss_less_beside : (("less" : Str) == "beside") = false := by decide +kernel
theorem se_zero_zero : (D.str "zero").eq? (.str "zero") = some true := by decide +kernel
theorem se_zero_add : (D.str "zero").eq? (.str "add") = some false := by decide +kernel
theorem ss_zero_add : (("zero" : Str) == "add") = false := by decide +kernel
theorem se_zero_less : (D.str "zero").eq? (.str "less") = some false := by decide +kernel
theorem ss_zero_less : (("zero" : Str) == "less") = false := by decide +kernel
theorem se_zero_if : (D.str "zero").eq? (.str "if") = some false := by decide +kernel
theorem ss_zero_if : (("zero" : Str) == "if") = false := by decide +kernel
theorem se_zero_while : (D.str "zero").eq? (.str "while") = some false := by decide +kernel
theorem ss_zero_while : (("zero" : Str) == "while") = false := by decide +kernel
theorem se_zero_beside : (D.str "zero").eq? (.str "beside") = some false := by decide +kernel
theorem ss_zero_beside : (("zero" : Str) == "beside") = false := by decide +kernel
theorem se_if_if : (D.str "if").eq? (.str "if") = some true := by decide +kernel
theorem se_if_add : (D.str "if").eq? (.str "add") = some false := by decide +kernel
theorem ss_if_add : (("if" : Str) == "add") = false := by decide +kernel
theorem se_if_less : (D.str "if").eq? (.str "less") = some false := by decide +kernel
theorem ss_if_less : (("if" : Str) == "less") = false := by decide +kernel
theorem se_if_zero : (D.str "if").eq? (.str "zero") = some false := by decide +kernel
theorem ss_if_zero : (("if" : Str) == "zero") = false := by decide +kernel
theorem se_if_while : (D.str "if").eq? (.str "while") = some false := by decide +kernel
theorem ss_if_while : (("if" : Str) == "while") = false := by decide +kernel
theorem se_if_beside : (D.str "if").eq? (.str "beside") = some false := by decide +kernel
theorem ss_if_beside : (("if" : Str) == "beside") = false := by decide +kernel
theorem se_while_while : (D.str "while").eq? (.str "while") = some true := by decide +kernel
theorem se_while_add : (D.str "while").eq? (.str "add") = some false := by decide +kernel
theorem ss_while_add : (("while" : Str) == "add") = false := by decide +kernel
theorem se_while_less : (D.str "while").eq? (.str "less") = some false := by decide +kernel
theorem ss_while_less : (("while" : Str) == "less") = false := by decide +kernel
theorem se_while_zero : (D.str "while").eq? (.str "zero") = some false := by decide +kernel
theorem ss_while_zero : (("while" : Str) == "zero") = false := by decide +kernel
theorem se_while_if : (D.str "while").eq? (.str "if") = some false := by decide +kernel
theorem ss_while_if : (("while" : Str) == "if") = false := by decide +kernel
theorem se_while_beside : (D.str "while").eq? (.str "beside") = some false := by decide +kernel
theorem ss_while_beside : (("while" : Str) == "beside") = false := by decide +kernel
theorem se_beside_beside : (D.str "beside").eq? (.str "beside") = some true := by decide +kernel
theorem se_beside_add : (D.str "beside").eq? (.str "add") = some false := by decide +kernel
theorem ss_beside_add : (("beside" : Str) == "add") = false := by decide +kernel
theorem se_beside_less : (D.str "beside").eq? (.str "less") = some false := by decide +kernel
theorem ss_beside_less : (("beside" : Str) == "less") = false := by decide +kernel
theorem se_beside_zero : (D.str "beside").eq? (.str "zero") = some false := by decide +kernel
theorem ss_beside_zero : (("beside" : Str) == "zero") = false := by decide +kernel
theorem se_beside_if : (D.str "beside").eq? (.str "if") = some false := by decide +kernel
theorem ss_beside_if : (("beside" : Str) == "if") = false := by decide +kernel
theorem se_beside_while : (D.str "beside").eq? (.str "while") = some false := by decide +kernel
theorem ss_beside_while : (("beside" : Str) == "while") = false := by decide +kernel
theorem in_2 (a x y : Str) : p_in_ [.str a, .tup [.str x, .str y]] = some (.bl (x == a || y == a), .fz) := by
  simp [p_in_, D.flat, D.eqv, fzv]
theorem in_3 (a x y z : Str) : p_in_ [.str a, .tup [.str x, .str y, .str z]] = some (.bl (x == a || (y == a || z == a)), .fz) := by
  simp [p_in_, D.flat, D.eqv, fzv]
/-! ### rows -/
mutual
inductive Row where
  | sum (less : Bool) (a b m : Int) | zero (a : Int) | iff (a : Int) (x y : Rows) | whl (a : Int) (x : Rows) | beside (x y : Rows)
inductive Rows where
  | nil | cons (r : Row) (rs : Rows)
end
mutual
def Row.enc : Row → D
  | .sum false a b m => .tup [.str "add", .int a, .int b, .int m]
  | .sum true a b m => .tup [.str "less", .int a, .int b, .int m]
  | .zero a => .tup [.str "zero", .int a]
  | .iff a x y => .tup [.str "if", .int a, .tup x.encs, .tup y.encs]
  | .whl a x => .tup [.str "while", .int a, .tup x.encs]
  | .beside x y => .tup [.str "beside", .tup x.encs, .tup y.encs]
def Rows.encs : Rows → List D
  | .nil => []
  | .cons r rs => r.enc :: rs.encs
end
def Rows.len : Rows → Nat
  | .nil => 0
  | .cons _ r => r.len + 1
mutual
def Row.gen (ks : List Str) (us : List Int) (d : Nat) (r : Row) : Prop := match r with
  | .sum _ a b m => a ∈ us ∧ b ∈ us ∧ a ≠ b ∧ 1 ≤ m ∧ m ≤ 9
  | .zero a => a ∈ us
  | .iff a x y => 2 ≤ d ∧ ("if" : Str) ∈ ks ∧ a ∈ us ∧ x.gen ks us (d - 1) ∧ y.gen ks us (d - 1)
  | .whl a x => 2 ≤ d ∧ ("while" : Str) ∈ ks ∧ a ∈ us ∧ x.gen ks us (d - 1)
  | .beside x y => 2 ≤ d ∧ ("beside" : Str) ∈ ks ∧ ∃ u1 u2, u1 ++ u2 = us ∧ ((x.gen ks u1 (d - 1) ∧ y.gen ks u2 (d - 1) ∧ 1 ≤ x.len) ∨ (x.gen ks u2 (d - 1) ∧ y.gen ks u1 (d - 1) ∧ 1 ≤ y.len))
def Rows.gen (ks : List Str) (us : List Int) (d : Nat) (r : Rows) : Prop := match r with
  | .nil => True
  | .cons r rs => r.gen ks us d ∧ rs.gen ks us d
end
def strsD (ks : List Str) : List D := ks.map D.str
theorem strs_get {us : List Str} {j : Nat} {d : D} (h : (strsD us)[j]? = some d) : ∃ a, d = .str a ∧ a ∈ us := by
  unfold strsD at h
  rw [List.getElem?_map] at h
  cases e : us[j]? with
  | none => rw [e] at h; cases h
  | some a => rw [e] at h; cases h; exact ⟨a, rfl, List.mem_of_getElem? e⟩
def leafs : List Str := ["add", "less", "zero"]
def kindsAll : List Str := ["add", "less", "zero", "if", "while", "beside"]
structure Kinds (ks : List Str) : Prop where
  all : ∀ k ∈ ks, k ∈ kindsAll
  leaf : ∃ k ∈ ks, k ∈ leafs
structure HasRow (P : Prg) : Prop extends HasU P where
  row : P.fn "_law_row" = some fd__law_row
  rows : P.fn "_law_rows" = some fd__law_rows
def isLeaf (k : Str) : Bool := "add" == k || ("less" == k || "zero" == k)
theorem town_len (ts : List D) (k : Nat) : (ts ++ zs k).length = ts.length + k := by rw [List.length_append]; unfold zs; rw [List.length_replicate]
theorem zs_app (ts : List D) (j k : Nat) : ts ++ zs j ++ zs k = ts ++ zs (j + k) := by unfold zs; rw [List.append_assoc, List.replicate_append_replicate]
theorem zs_one : zs 1 = [.int 0] := rfl
/-- the kind that is picked -/
theorem row_kind {P : Prg} (h : HasRow P) (n : Nat) (ns : List Int) (ts : List D) (us : List D) (ks : List Str) (hk : Kinds ks) (d : Nat) (hd : 1 ≤ d) (ht : ts.length < 1000000) {Q : Val → Fr → Prop} {E : Str → Fr → Prop} (rest : Fr)
    (q : ∀ k ∈ ks, (d = 1 → isLeaf k = true) → Q (.str k, .fz) (some (.scr ns, .fz) :: some (town (ts ++ zs 1)) :: some (.tup us, .fz) :: some (.int d, .fz) :: some (.tup (strsD ks), .fz) :: none :: rest)) :
    Run (evE (P.cfg (callF P (n + 4))) (.call "_law_pick" (.cons (.var 0) (.cons (.var 1) (.cons (.ife (.op .gt (.cons (.var 3) (.cons (.cst (.int 1)) .nil))) (.var 4) (.comp .fz (.var 5) [5] (.nm 5) (.seq (.var 4)) (.some (.op .in_ (.cons (.var 5) (.cons (.tup (.cons (.cst (.str "add")) (.cons (.cst (.str "less")) (.cons (.cst (.str "zero")) .nil)))) .nil)))))) .nil))))
      (some (.scr ns, .fz) :: some (town ts) :: some (.tup us, .fz) :: some (.int d, .fz) :: some (.tup (strsD ks), .fz) :: none :: rest)) Q E := by
  by_cases c : 1 < d
  · have hl : 0 < (strsD ks).length := by
      obtain ⟨k, hk, _⟩ := hk.leaf
      unfold strsD
      rw [List.length_map]
      exact List.length_pos_of_mem hk
    obtain ⟨j, x, g, e⟩ := law_pick h.toHasDraw n ns ts Sq.tup hl ht
    obtain ⟨k, rfl, hm⟩ := strs_get g
    have qq := q k hm (fun e => absurd e (by omega))
    unfold town at e qq ⊢
    have c' : (1 : Int) < (d : Int) := by omega
    simp only [↓rE_cst, ↓rE_glb, ↓rE_var, ↓rE_mov, ↓rE_tup, ↓rE_lst, ↓rE_op, ↓rE_ife, ↓rE_and, ↓rE_or, ↓rE_not, ↓rE_chain, ↓rE_call, ↓rE_mth, ↓rE_comp, ↓rE_dsp, ↓rO_var, ↓rO_op, ↓rO_cst, ↓rO_glb, ↓rO_mov, ↓rO_tup, ↓rO_lst, ↓rO_ife, ↓rO_and, ↓rO_or, ↓rO_not, ↓rO_chain, ↓rO_mth, ↓rO_call, ↓rO_comp, ↓rO_dsp, ↓rA_nil, ↓rA_cons, ↓rL_nil, ↓rL_cons, ↓rT_and, ↓rT_or, ↓rT_not, ↓rT_var, ↓rT_op, ↓rT_chain, ↓rT_call, ↓rT_cst, ↓rT_ife, ↓rI_seq, ↓rI_rng1, ↓rI_zip, ↓rB_nil, ↓rB_cons, ↓rS_asg, ↓rS_par, ↓rS_ex, ↓rS_ret, ↓rS_retN, ↓rS_iff, ↓rS_for, ↓rS_whl, ↓rS_rse, ↓rS_app, ↓rS_ext, ↓rS_sub, ↓run_pure, ↓run_bind, ↓run_ok, ↓run_exn, ↓run_bad, ↓r_getV, ↓got_some, ↓got_none, ↓got_map, ↓got_ite, ↓kB_bl, ↓gets_fz, ↓gets_un, ↓gets_tu, ↓movs_fz, ↓movs_un, ↓movs_tu, ↓next_next, ↓next_ret, ↓next_brk, ↓next_cnt, ↓ret_ret, ↓ret_exn, ↓ret_bad, ↓run_ite, ↓run_iteo, ↓run_of, ↓fin_ret, ↓fin_next, ↓finX_eq, ↓run_mbad, slot, rds, AV.rd, Own.simple, sv, Prim.run, Prim.ints, fzv, newl, outs, asgP, setAll, tupV, ownT, lstV, itemV, seqOf, lstOf, intOf, p_add, p_sub, p_mul, p_mod, p_fdiv, p_pow, p_neg, p_lt, p_le, p_gt, p_ge, p_isNone, p_notNone, p_idx, p_slLo, p_slHi, p_len, p_tuple, p_list, p_max2, p_min2, p_abs, p_int_, D.flat, passA, backA, takeA, frzA, List.getElem?_cons_zero, List.getElem?_cons_succ, Option.bind_some, Option.bind_none, id_eq, ↓reduceIte, List.map_cons, List.map_nil, List.cons_append, List.nil_append, List.replicate, List.set_cons_zero, List.set_cons_succ, and_true, true_and, and_self, eq_self, List.length_cons, List.length_nil, Nat.reduceAdd, Nat.reduceLeDiff, Nat.reduceLT, Bool.true_eq_false, Bool.false_eq_true, decide_true, decide_false, if_true, if_false, decide_eq_true_eq, Bool.and_eq_true, Bool.or_eq_true, List.all_cons, List.all_nil, Bool.and_true, Bool.and_self, c', decide_true, ↓run_callG h.pick, ↓io__law_pick, e]
    exact qq
  · have c' : ¬ (1 : Int) < (d : Int) := by omega
    simp only [↓rE_cst, ↓rE_glb, ↓rE_var, ↓rE_mov, ↓rE_tup, ↓rE_lst, ↓rE_op, ↓rE_ife, ↓rE_and, ↓rE_or, ↓rE_not, ↓rE_chain, ↓rE_call, ↓rE_mth, ↓rE_comp, ↓rE_dsp, ↓rO_var, ↓rO_op, ↓rO_cst, ↓rO_glb, ↓rO_mov, ↓rO_tup, ↓rO_lst, ↓rO_ife, ↓rO_and, ↓rO_or, ↓rO_not, ↓rO_chain, ↓rO_mth, ↓rO_call, ↓rO_comp, ↓rO_dsp, ↓rA_nil, ↓rA_cons, ↓rL_nil, ↓rL_cons, ↓rT_and, ↓rT_or, ↓rT_not, ↓rT_var, ↓rT_op, ↓rT_chain, ↓rT_call, ↓rT_cst, ↓rT_ife, ↓rI_seq, ↓rI_rng1, ↓rI_zip, ↓rB_nil, ↓rB_cons, ↓rS_asg, ↓rS_par, ↓rS_ex, ↓rS_ret, ↓rS_retN, ↓rS_iff, ↓rS_for, ↓rS_whl, ↓rS_rse, ↓rS_app, ↓rS_ext, ↓rS_sub, ↓run_pure, ↓run_bind, ↓run_ok, ↓run_exn, ↓run_bad, ↓r_getV, ↓got_some, ↓got_none, ↓got_map, ↓got_ite, ↓kB_bl, ↓gets_fz, ↓gets_un, ↓gets_tu, ↓movs_fz, ↓movs_un, ↓movs_tu, ↓next_next, ↓next_ret, ↓next_brk, ↓next_cnt, ↓ret_ret, ↓ret_exn, ↓ret_bad, ↓run_ite, ↓run_iteo, ↓run_of, ↓fin_ret, ↓fin_next, ↓finX_eq, ↓run_mbad, slot, rds, AV.rd, Own.simple, sv, Prim.run, Prim.ints, fzv, newl, outs, asgP, setAll, tupV, ownT, lstV, itemV, seqOf, lstOf, intOf, p_add, p_sub, p_mul, p_mod, p_fdiv, p_pow, p_neg, p_lt, p_le, p_gt, p_ge, p_isNone, p_notNone, p_idx, p_slLo, p_slHi, p_len, p_tuple, p_list, p_max2, p_min2, p_abs, p_int_, D.flat, passA, backA, takeA, frzA, List.getElem?_cons_zero, List.getElem?_cons_succ, Option.bind_some, Option.bind_none, id_eq, ↓reduceIte, List.map_cons, List.map_nil, List.cons_append, List.nil_append, List.replicate, List.set_cons_zero, List.set_cons_succ, and_true, true_and, and_self, eq_self, List.length_cons, List.length_nil, Nat.reduceAdd, Nat.reduceLeDiff, Nat.reduceLT, Bool.true_eq_false, Bool.false_eq_true, decide_true, decide_false, if_true, if_false, decide_eq_true_eq, Bool.and_eq_true, Bool.or_eq_true, List.all_cons, List.all_nil, Bool.and_true, Bool.and_self, c', decide_false]
    refine run_comp (fun r acc τ => τ = (some (.scr ns, .fz) :: some (town ts) :: some (.tup us, .fz) :: some (.int d, .fz) :: some (.tup (strsD ks), .fz) :: none :: rest) ∧ ∃ rk ak : List Str, r = strsD rk ∧ acc = strsD ak ∧ (∀ k ∈ rk, k ∈ ks) ∧ (∀ k ∈ ak, k ∈ ks ∧ isLeaf k = true) ∧ ((∃ k ∈ rk, isLeaf k = true) ∨ ak ≠ [])) ?_ ?_ ?_
    · simp only [wipeF, clr, ↓rE_cst, ↓rE_glb, ↓rE_var, ↓rE_mov, ↓rE_tup, ↓rE_lst, ↓rE_op, ↓rE_ife, ↓rE_and, ↓rE_or, ↓rE_not, ↓rE_chain, ↓rE_call, ↓rE_mth, ↓rE_comp, ↓rE_dsp, ↓rO_var, ↓rO_op, ↓rO_cst, ↓rO_glb, ↓rO_mov, ↓rO_tup, ↓rO_lst, ↓rO_ife, ↓rO_and, ↓rO_or, ↓rO_not, ↓rO_chain, ↓rO_mth, ↓rO_call, ↓rO_comp, ↓rO_dsp, ↓rA_nil, ↓rA_cons, ↓rL_nil, ↓rL_cons, ↓rT_and, ↓rT_or, ↓rT_not, ↓rT_var, ↓rT_op, ↓rT_chain, ↓rT_call, ↓rT_cst, ↓rT_ife, ↓rI_seq, ↓rI_rng1, ↓rI_zip, ↓rB_nil, ↓rB_cons, ↓rS_asg, ↓rS_par, ↓rS_ex, ↓rS_ret, ↓rS_retN, ↓rS_iff, ↓rS_for, ↓rS_whl, ↓rS_rse, ↓rS_app, ↓rS_ext, ↓rS_sub, ↓run_pure, ↓run_bind, ↓run_ok, ↓run_exn, ↓run_bad, ↓r_getV, ↓got_some, ↓got_none, ↓got_map, ↓got_ite, ↓kB_bl, ↓gets_fz, ↓gets_un, ↓gets_tu, ↓movs_fz, ↓movs_un, ↓movs_tu, ↓next_next, ↓next_ret, ↓next_brk, ↓next_cnt, ↓ret_ret, ↓ret_exn, ↓ret_bad, ↓run_ite, ↓run_iteo, ↓run_of, ↓fin_ret, ↓fin_next, ↓finX_eq, ↓run_mbad, slot, rds, AV.rd, Own.simple, sv, Prim.run, Prim.ints, fzv, newl, outs, asgP, setAll, tupV, ownT, lstV, itemV, seqOf, lstOf, intOf, p_add, p_sub, p_mul, p_mod, p_fdiv, p_pow, p_neg, p_lt, p_le, p_gt, p_ge, p_isNone, p_notNone, p_idx, p_slLo, p_slHi, p_len, p_tuple, p_list, p_max2, p_min2, p_abs, p_int_, D.flat, passA, backA, takeA, frzA, List.getElem?_cons_zero, List.getElem?_cons_succ, Option.bind_some, Option.bind_none, id_eq, ↓reduceIte, List.map_cons, List.map_nil, List.cons_append, List.nil_append, List.replicate, List.set_cons_zero, List.set_cons_succ, and_true, true_and, and_self, eq_self, List.length_cons, List.length_nil, Nat.reduceAdd, Nat.reduceLeDiff, Nat.reduceLT, Bool.true_eq_false, Bool.false_eq_true, decide_true, decide_false, if_true, if_false, decide_eq_true_eq, Bool.and_eq_true, Bool.or_eq_true, List.all_cons, List.all_nil, Bool.and_true, Bool.and_self]
      refine ⟨ks, [], rfl, rfl, fun k h => h, fun k h => (List.not_mem_nil h).elim, .inl ?_⟩
      obtain ⟨k, h1, h2⟩ := hk.leaf
      refine ⟨k, h1, ?_⟩
      unfold leafs at h2
      unfold isLeaf
      simp only [List.mem_cons, List.not_mem_nil, or_false] at h2
      rcases h2 with rfl | rfl | rfl <;> simp
    · rintro x r acc τ ⟨rfl, rk, ak, hr, rfl, h1, h2, h3⟩
      cases rk with
      | nil => cases hr
      | cons k rk =>
        cases hr
        simp only [↓rE_cst, ↓rE_glb, ↓rE_var, ↓rE_mov, ↓rE_tup, ↓rE_lst, ↓rE_op, ↓rE_ife, ↓rE_and, ↓rE_or, ↓rE_not, ↓rE_chain, ↓rE_call, ↓rE_mth, ↓rE_comp, ↓rE_dsp, ↓rO_var, ↓rO_op, ↓rO_cst, ↓rO_glb, ↓rO_mov, ↓rO_tup, ↓rO_lst, ↓rO_ife, ↓rO_and, ↓rO_or, ↓rO_not, ↓rO_chain, ↓rO_mth, ↓rO_call, ↓rO_comp, ↓rO_dsp, ↓rA_nil, ↓rA_cons, ↓rL_nil, ↓rL_cons, ↓rT_and, ↓rT_or, ↓rT_not, ↓rT_var, ↓rT_op, ↓rT_chain, ↓rT_call, ↓rT_cst, ↓rT_ife, ↓rI_seq, ↓rI_rng1, ↓rI_zip, ↓rB_nil, ↓rB_cons, ↓rS_asg, ↓rS_par, ↓rS_ex, ↓rS_ret, ↓rS_retN, ↓rS_iff, ↓rS_for, ↓rS_whl, ↓rS_rse, ↓rS_app, ↓rS_ext, ↓rS_sub, ↓run_pure, ↓run_bind, ↓run_ok, ↓run_exn, ↓run_bad, ↓r_getV, ↓got_some, ↓got_none, ↓got_map, ↓got_ite, ↓kB_bl, ↓gets_fz, ↓gets_un, ↓gets_tu, ↓movs_fz, ↓movs_un, ↓movs_tu, ↓next_next, ↓next_ret, ↓next_brk, ↓next_cnt, ↓ret_ret, ↓ret_exn, ↓ret_bad, ↓run_ite, ↓run_iteo, ↓run_of, ↓fin_ret, ↓fin_next, ↓finX_eq, ↓run_mbad, slot, rds, AV.rd, Own.simple, sv, Prim.run, Prim.ints, fzv, newl, outs, asgP, setAll, tupV, ownT, lstV, itemV, seqOf, lstOf, intOf, p_add, p_sub, p_mul, p_mod, p_fdiv, p_pow, p_neg, p_lt, p_le, p_gt, p_ge, p_isNone, p_notNone, p_idx, p_slLo, p_slHi, p_len, p_tuple, p_list, p_max2, p_min2, p_abs, p_int_, D.flat, passA, backA, takeA, frzA, List.getElem?_cons_zero, List.getElem?_cons_succ, Option.bind_some, Option.bind_none, id_eq, ↓reduceIte, List.map_cons, List.map_nil, List.cons_append, List.nil_append, List.replicate, List.set_cons_zero, List.set_cons_succ, and_true, true_and, and_self, eq_self, List.length_cons, List.length_nil, Nat.reduceAdd, Nat.reduceLeDiff, Nat.reduceLT, Bool.true_eq_false, Bool.false_eq_true, decide_true, decide_false, if_true, if_false, decide_eq_true_eq, Bool.and_eq_true, Bool.or_eq_true, List.all_cons, List.all_nil, Bool.and_true, Bool.and_self, evC, in_3, clr]
        refine ⟨by decide, ?_⟩
        by_cases cl : isLeaf k = true
        · rw [if_pos (by unfold isLeaf at cl; simpa only [Bool.or_eq_true] using cl)]
          refine ⟨rk, ak ++ [k], rfl, by unfold strsD; rw [List.map_append]; rfl, fun x hx => h1 x (List.mem_cons_of_mem _ hx), fun x hx => ?_, .inr (by simp)⟩
          rcases List.mem_append.mp hx with z | z
          · exact h2 x z
          · rw [List.mem_singleton.mp z]
            exact ⟨h1 k List.mem_cons_self, cl⟩
        · rw [if_neg (by unfold isLeaf at cl; simpa only [Bool.or_eq_true] using cl)]
          refine ⟨rk, ak, rfl, rfl, fun x hx => h1 x (List.mem_cons_of_mem _ hx), h2, ?_⟩
          rcases h3 with ⟨x, hx, hl⟩ | z
          · rcases List.mem_cons.mp hx with rfl | hx
            · exact absurd hl cl
            · exact .inl ⟨x, hx, hl⟩
          · exact .inr z
    · rintro xs τ ⟨rfl, rk, ak, hr, rfl, h1, h2, h3⟩
      have e0 : rk = [] := by
        cases rk with
        | nil => rfl
        | cons k rk => cases hr
      subst e0
      have h4 : ak ≠ [] := by
        rcases h3 with ⟨x, hx, _⟩ | z
        · exact (List.not_mem_nil hx).elim
        · exact z
      have hl : 0 < (strsD ak).length := by
        unfold strsD
        rw [List.length_map]
        exact List.length_pos_iff.mpr h4
      obtain ⟨j, x, g, e⟩ := law_pick h.toHasDraw n ns ts Sq.lst hl ht
      obtain ⟨k, rfl, hm⟩ := strs_get g
      have qq := q k (h2 k hm).1 (fun _ => (h2 k hm).2)
      unfold town at e qq ⊢
      simp only [putBack, ↓rE_cst, ↓rE_glb, ↓rE_var, ↓rE_mov, ↓rE_tup, ↓rE_lst, ↓rE_op, ↓rE_ife, ↓rE_and, ↓rE_or, ↓rE_not, ↓rE_chain, ↓rE_call, ↓rE_mth, ↓rE_comp, ↓rE_dsp, ↓rO_var, ↓rO_op, ↓rO_cst, ↓rO_glb, ↓rO_mov, ↓rO_tup, ↓rO_lst, ↓rO_ife, ↓rO_and, ↓rO_or, ↓rO_not, ↓rO_chain, ↓rO_mth, ↓rO_call, ↓rO_comp, ↓rO_dsp, ↓rA_nil, ↓rA_cons, ↓rL_nil, ↓rL_cons, ↓rT_and, ↓rT_or, ↓rT_not, ↓rT_var, ↓rT_op, ↓rT_chain, ↓rT_call, ↓rT_cst, ↓rT_ife, ↓rI_seq, ↓rI_rng1, ↓rI_zip, ↓rB_nil, ↓rB_cons, ↓rS_asg, ↓rS_par, ↓rS_ex, ↓rS_ret, ↓rS_retN, ↓rS_iff, ↓rS_for, ↓rS_whl, ↓rS_rse, ↓rS_app, ↓rS_ext, ↓rS_sub, ↓run_pure, ↓run_bind, ↓run_ok, ↓run_exn, ↓run_bad, ↓r_getV, ↓got_some, ↓got_none, ↓got_map, ↓got_ite, ↓kB_bl, ↓gets_fz, ↓gets_un, ↓gets_tu, ↓movs_fz, ↓movs_un, ↓movs_tu, ↓next_next, ↓next_ret, ↓next_brk, ↓next_cnt, ↓ret_ret, ↓ret_exn, ↓ret_bad, ↓run_ite, ↓run_iteo, ↓run_of, ↓fin_ret, ↓fin_next, ↓finX_eq, ↓run_mbad, slot, rds, AV.rd, Own.simple, sv, Prim.run, Prim.ints, fzv, newl, outs, asgP, setAll, tupV, ownT, lstV, itemV, seqOf, lstOf, intOf, p_add, p_sub, p_mul, p_mod, p_fdiv, p_pow, p_neg, p_lt, p_le, p_gt, p_ge, p_isNone, p_notNone, p_idx, p_slLo, p_slHi, p_len, p_tuple, p_list, p_max2, p_min2, p_abs, p_int_, D.flat, passA, backA, takeA, frzA, List.getElem?_cons_zero, List.getElem?_cons_succ, Option.bind_some, Option.bind_none, id_eq, ↓reduceIte, List.map_cons, List.map_nil, List.cons_append, List.nil_append, List.replicate, List.set_cons_zero, List.set_cons_succ, and_true, true_and, and_self, eq_self, List.length_cons, List.length_nil, Nat.reduceAdd, Nat.reduceLeDiff, Nat.reduceLT, Bool.true_eq_false, Bool.false_eq_true, decide_true, decide_false, if_true, if_false, decide_eq_true_eq, Bool.and_eq_true, Bool.or_eq_true, List.all_cons, List.all_nil, Bool.and_true, Bool.and_self, ↓run_callG h.pick, ↓io__law_pick, e]
      exact qq
end Py

set_option Elab.async false
set_option linter.all false
set_option maxRecDepth 100000
set_option maxHeartbeats 4000000
namespace Py
open PySem
def Bd : Nat → Nat
  | 0 => 0
  | d + 1 => 12 + 5 * Bd d
def Rows.of : List Row → Rows
  | [] => .nil
  | r :: rs => .cons r (Rows.of rs)
theorem of_encs : ∀ l : List Row, (Rows.of l).encs = l.map Row.enc
  | [] => rfl
  | r :: l => by rw [Rows.of, Rows.encs, of_encs l]; rfl
theorem of_len : ∀ l : List Row, (Rows.of l).len = l.length
  | [] => rfl
  | r :: l => by rw [Rows.of, Rows.len, of_len l]; rfl
theorem of_gen {ks : List Str} {us : List Int} {d : Nat} : ∀ {l : List Row}, (∀ r ∈ l, r.gen ks us d) → (Rows.of l).gen ks us d
  | [], _ => by rw [Rows.of, Rows.gen]; trivial
  | r :: l, h => by
    rw [Rows.of, Rows.gen]
    exact ⟨h r List.mem_cons_self, of_gen fun x hx => h x (List.mem_cons_of_mem _ hx)⟩
structure Ask (us : List Int) (ks : List Str) : Prop where
  nd : us.Nodup
  ne : 0 < us.length
  kinds : Kinds ks
def RowOk (P : Prg) (d : Nat) : Prop := ∀ (N : Nat) (ns : List Int) (ts : List D) (us : List Int) (ks : List Str), 2 * d + 4 ≤ N → Ask us ks → ts.length + Bd d ≤ 900000 →
  ∃ (r : Row) (k : Nat), k ≤ Bd d ∧ r.gen ks us d ∧ callF P N "_law_row" [(.scr ns, .fz), town ts, (.tup (intsD us), .fz), (.int d, .fz), (.tup (strsD ks), .fz)] = .ret (r.enc, .fz) [town (ts ++ zs k)]
def RowsOk (P : Prg) (d : Nat) : Prop := ∀ (N : Nat) (ns : List Int) (ts : List D) (us : List Int) (ks : List Str) (many : Nat), 2 * d + 5 ≤ N → Ask us ks → many ≤ 9 → ts.length + many * Bd d ≤ 900000 →
  ∃ (rs : Rows) (k : Nat), rs.len = many ∧ k ≤ many * Bd d ∧ rs.gen ks us d ∧ callF P N "_law_rows" [(.scr ns, .fz), town ts, (.tup (intsD us), .fz), (.int d, .fz), (.int many, .fz), (.tup (strsD ks), .fz)] = .ret (.tup rs.encs, .fz) [town (ts ++ zs k)]
theorem rangeD_length (j : Int) : (rangeD 0 j).length = j.toNat := by
  unfold rangeD
  rw [List.length_map, List.length_range]
  simp
theorem rows_of_row {P : Prg} (h : HasRow P) {d : Nat} (hr : RowOk P d) : RowsOk P d := by
  intro N ns ts us ks many hN ha hm ht
  obtain ⟨N, rfl⟩ : ∃ M, N = M + 1 := ⟨N - 1, by omega⟩
  suffices hs : Ret (callF P (N + 1) "_law_rows" [(.scr ns, .fz), town ts, (.tup (intsD us), .fz), (.int d, .fz), (.int many, .fz), (.tup (strsD ks), .fz)]) (fun v io => ∃ (rs : Rows) (k : Nat), rs.len = many ∧ k ≤ many * Bd d ∧ rs.gen ks us d ∧ v = (.tup rs.encs, .fz) ∧ io = [town (ts ++ zs k)]) fun _ _ => False by
    generalize callF P (N + 1) "_law_rows" [(.scr ns, .fz), town ts, (.tup (intsD us), .fz), (.int d, .fz), (.int many, .fz), (.tup (strsD ks), .fz)] = o at hs ⊢
    cases o with
    | ret v io =>
      obtain ⟨rs, k, a, b, c, rfl, rfl⟩ := hs
      exact ⟨rs, k, a, b, c, rfl⟩
    | exn c io => exact hs.elim
    | bad => exact hs.elim
  refine call_run h.rows rfl ?_
  have hro : (rangeOk (many : Int) && decide ((many : Int) ≤ 1000000)) = true := by
    unfold rangeOk
    simp only [Bool.and_eq_true, decide_eq_true_eq]
    omega
  simp only [fd__law_rows, ↓rE_cst, ↓rE_glb, ↓rE_var, ↓rE_mov, ↓rE_tup, ↓rE_lst, ↓rE_op, ↓rE_ife, ↓rE_and, ↓rE_or, ↓rE_not, ↓rE_chain, ↓rE_call, ↓rE_mth, ↓rE_comp, ↓rE_dsp, ↓rO_var, ↓rO_op, ↓rO_cst, ↓rO_glb, ↓rO_mov, ↓rO_tup, ↓rO_lst, ↓rO_ife, ↓rO_and, ↓rO_or, ↓rO_not, ↓rO_chain, ↓rO_mth, ↓rO_call, ↓rO_comp, ↓rO_dsp, ↓rA_nil, ↓rA_cons, ↓rL_nil, ↓rL_cons, ↓rT_and, ↓rT_or, ↓rT_not, ↓rT_var, ↓rT_op, ↓rT_chain, ↓rT_call, ↓rT_cst, ↓rT_ife, ↓rI_seq, ↓rI_rng1, ↓rI_zip, ↓rB_nil, ↓rB_cons, ↓rS_asg, ↓rS_par, ↓rS_ex, ↓rS_ret, ↓rS_retN, ↓rS_iff, ↓rS_for, ↓rS_whl, ↓rS_rse, ↓rS_app, ↓rS_ext, ↓rS_sub, ↓run_pure, ↓run_bind, ↓run_ok, ↓run_exn, ↓run_bad, ↓r_getV, ↓got_some, ↓got_none, ↓got_map, ↓got_ite, ↓kB_bl, ↓gets_fz, ↓gets_un, ↓gets_tu, ↓movs_fz, ↓movs_un, ↓movs_tu, ↓next_next, ↓next_ret, ↓next_brk, ↓next_cnt, ↓ret_ret, ↓ret_exn, ↓ret_bad, ↓run_ite, ↓run_iteo, ↓run_of, ↓fin_ret, ↓fin_next, ↓finX_eq, ↓run_mbad, slot, rds, AV.rd, Own.simple, sv, Prim.run, Prim.ints, fzv, newl, outs, asgP, setAll, tupV, ownT, lstV, itemV, seqOf, lstOf, intOf, p_add, p_sub, p_mul, p_mod, p_fdiv, p_pow, p_neg, p_lt, p_le, p_gt, p_ge, p_isNone, p_notNone, p_idx, p_slLo, p_slHi, p_len, p_tuple, p_list, p_max2, p_min2, p_abs, p_int_, D.flat, passA, backA, takeA, frzA, List.getElem?_cons_zero, List.getElem?_cons_succ, Option.bind_some, Option.bind_none, id_eq, ↓reduceIte, List.map_cons, List.map_nil, List.cons_append, List.nil_append, List.replicate, List.set_cons_zero, List.set_cons_succ, and_true, true_and, and_self, eq_self, List.length_cons, List.length_nil, Nat.reduceAdd, Nat.reduceLeDiff, Nat.reduceLT, Bool.true_eq_false, Bool.false_eq_true, decide_true, decide_false, if_true, if_false, decide_eq_true_eq, Bool.and_eq_true, Bool.or_eq_true, List.all_cons, List.all_nil, Bool.and_true, Bool.and_self]
  simp only [Bool.and_eq_true, decide_eq_true_eq] at hro
  refine ⟨hro, ?_⟩
  refine run_comp (fun r acc τ => ∃ (l : List Row) (k : Nat), acc = l.map Row.enc ∧ (∀ x ∈ l, x.gen ks us d) ∧ k ≤ l.length * Bd d ∧ l.length + r.length = many ∧ τ = [some (.scr ns, .fz), some (town (ts ++ zs k)), some (.tup (intsD us), .fz), some (.int d, .fz), some (.int many, .fz), some (.tup (strsD ks), .fz), none]) ?_ ?_ ?_
  · simp only [wipeF, clr, ↓rE_cst, ↓rE_glb, ↓rE_var, ↓rE_mov, ↓rE_tup, ↓rE_lst, ↓rE_op, ↓rE_ife, ↓rE_and, ↓rE_or, ↓rE_not, ↓rE_chain, ↓rE_call, ↓rE_mth, ↓rE_comp, ↓rE_dsp, ↓rO_var, ↓rO_op, ↓rO_cst, ↓rO_glb, ↓rO_mov, ↓rO_tup, ↓rO_lst, ↓rO_ife, ↓rO_and, ↓rO_or, ↓rO_not, ↓rO_chain, ↓rO_mth, ↓rO_call, ↓rO_comp, ↓rO_dsp, ↓rA_nil, ↓rA_cons, ↓rL_nil, ↓rL_cons, ↓rT_and, ↓rT_or, ↓rT_not, ↓rT_var, ↓rT_op, ↓rT_chain, ↓rT_call, ↓rT_cst, ↓rT_ife, ↓rI_seq, ↓rI_rng1, ↓rI_zip, ↓rB_nil, ↓rB_cons, ↓rS_asg, ↓rS_par, ↓rS_ex, ↓rS_ret, ↓rS_retN, ↓rS_iff, ↓rS_for, ↓rS_whl, ↓rS_rse, ↓rS_app, ↓rS_ext, ↓rS_sub, ↓run_pure, ↓run_bind, ↓run_ok, ↓run_exn, ↓run_bad, ↓r_getV, ↓got_some, ↓got_none, ↓got_map, ↓got_ite, ↓kB_bl, ↓gets_fz, ↓gets_un, ↓gets_tu, ↓movs_fz, ↓movs_un, ↓movs_tu, ↓next_next, ↓next_ret, ↓next_brk, ↓next_cnt, ↓ret_ret, ↓ret_exn, ↓ret_bad, ↓run_ite, ↓run_iteo, ↓run_of, ↓fin_ret, ↓fin_next, ↓finX_eq, ↓run_mbad, slot, rds, AV.rd, Own.simple, sv, Prim.run, Prim.ints, fzv, newl, outs, asgP, setAll, tupV, ownT, lstV, itemV, seqOf, lstOf, intOf, p_add, p_sub, p_mul, p_mod, p_fdiv, p_pow, p_neg, p_lt, p_le, p_gt, p_ge, p_isNone, p_notNone, p_idx, p_slLo, p_slHi, p_len, p_tuple, p_list, p_max2, p_min2, p_abs, p_int_, D.flat, passA, backA, takeA, frzA, List.getElem?_cons_zero, List.getElem?_cons_succ, Option.bind_some, Option.bind_none, id_eq, ↓reduceIte, List.map_cons, List.map_nil, List.cons_append, List.nil_append, List.replicate, List.set_cons_zero, List.set_cons_succ, and_true, true_and, and_self, eq_self, List.length_cons, List.length_nil, Nat.reduceAdd, Nat.reduceLeDiff, Nat.reduceLT, Bool.true_eq_false, Bool.false_eq_true, decide_true, decide_false, if_true, if_false, decide_eq_true_eq, Bool.and_eq_true, Bool.or_eq_true, List.all_cons, List.all_nil, Bool.and_true, Bool.and_self]
    refine ⟨[], 0, rfl, fun x hx => (List.not_mem_nil hx).elim, Nat.zero_le _, ?_, ?_⟩
    · rw [rangeD_length]; simp
    · show _ = [_, some (town (ts ++ [])), _, _, _, _, _]
      rw [List.append_nil]
  · rintro x r acc τ ⟨l, k, rfl, h1, h2, h3, rfl⟩
    have hl : (l.length + 1) * Bd d ≤ many * Bd d := Nat.mul_le_mul_right _ (by rw [List.length_cons] at h3; omega)
    rw [Nat.add_mul, Nat.one_mul] at hl
    obtain ⟨rw', k', b1, b2, b3⟩ := hr N ns (ts ++ zs k) us ks (by omega) ha (by rw [town_len]; omega)
    rw [zs_app] at b3
    unfold town at b3 ⊢
    simp only [↓rE_cst, ↓rE_glb, ↓rE_var, ↓rE_mov, ↓rE_tup, ↓rE_lst, ↓rE_op, ↓rE_ife, ↓rE_and, ↓rE_or, ↓rE_not, ↓rE_chain, ↓rE_call, ↓rE_mth, ↓rE_comp, ↓rE_dsp, ↓rO_var, ↓rO_op, ↓rO_cst, ↓rO_glb, ↓rO_mov, ↓rO_tup, ↓rO_lst, ↓rO_ife, ↓rO_and, ↓rO_or, ↓rO_not, ↓rO_chain, ↓rO_mth, ↓rO_call, ↓rO_comp, ↓rO_dsp, ↓rA_nil, ↓rA_cons, ↓rL_nil, ↓rL_cons, ↓rT_and, ↓rT_or, ↓rT_not, ↓rT_var, ↓rT_op, ↓rT_chain, ↓rT_call, ↓rT_cst, ↓rT_ife, ↓rI_seq, ↓rI_rng1, ↓rI_zip, ↓rB_nil, ↓rB_cons, ↓rS_asg, ↓rS_par, ↓rS_ex, ↓rS_ret, ↓rS_retN, ↓rS_iff, ↓rS_for, ↓rS_whl, ↓rS_rse, ↓rS_app, ↓rS_ext, ↓rS_sub, ↓run_pure, ↓run_bind, ↓run_ok, ↓run_exn, ↓run_bad, ↓r_getV, ↓got_some, ↓got_none, ↓got_map, ↓got_ite, ↓kB_bl, ↓gets_fz, ↓gets_un, ↓gets_tu, ↓movs_fz, ↓movs_un, ↓movs_tu, ↓next_next, ↓next_ret, ↓next_brk, ↓next_cnt, ↓ret_ret, ↓ret_exn, ↓ret_bad, ↓run_ite, ↓run_iteo, ↓run_of, ↓fin_ret, ↓fin_next, ↓finX_eq, ↓run_mbad, slot, rds, AV.rd, Own.simple, sv, Prim.run, Prim.ints, fzv, newl, outs, asgP, setAll, tupV, ownT, lstV, itemV, seqOf, lstOf, intOf, p_add, p_sub, p_mul, p_mod, p_fdiv, p_pow, p_neg, p_lt, p_le, p_gt, p_ge, p_isNone, p_notNone, p_idx, p_slLo, p_slHi, p_len, p_tuple, p_list, p_max2, p_min2, p_abs, p_int_, D.flat, passA, backA, takeA, frzA, List.getElem?_cons_zero, List.getElem?_cons_succ, Option.bind_some, Option.bind_none, id_eq, ↓reduceIte, List.map_cons, List.map_nil, List.cons_append, List.nil_append, List.replicate, List.set_cons_zero, List.set_cons_succ, and_true, true_and, and_self, eq_self, List.length_cons, List.length_nil, Nat.reduceAdd, Nat.reduceLeDiff, Nat.reduceLT, Bool.true_eq_false, Bool.false_eq_true, decide_true, decide_false, if_true, if_false, decide_eq_true_eq, Bool.and_eq_true, Bool.or_eq_true, List.all_cons, List.all_nil, Bool.and_true, Bool.and_self, evC, ↓run_callG h.row, ↓io__law_row, b3, clr]
    refine ⟨l ++ [rw'], k + k', by rw [List.map_append]; rfl, fun y hy => ?_, ?_, ?_, rfl⟩
    · rcases List.mem_append.mp hy with z | z
      · exact h1 y z
      · rw [List.mem_singleton.mp z]; exact b2
    · rw [List.length_append, List.length_singleton, Nat.add_mul, Nat.one_mul]; omega
    · rw [List.length_append, List.length_singleton]; rw [List.length_cons] at h3; omega
  · rintro xs τ ⟨l, k, rfl, h1, h2, h3, rfl⟩
    unfold town
    simp only [putBack, ↓rE_cst, ↓rE_glb, ↓rE_var, ↓rE_mov, ↓rE_tup, ↓rE_lst, ↓rE_op, ↓rE_ife, ↓rE_and, ↓rE_or, ↓rE_not, ↓rE_chain, ↓rE_call, ↓rE_mth, ↓rE_comp, ↓rE_dsp, ↓rO_var, ↓rO_op, ↓rO_cst, ↓rO_glb, ↓rO_mov, ↓rO_tup, ↓rO_lst, ↓rO_ife, ↓rO_and, ↓rO_or, ↓rO_not, ↓rO_chain, ↓rO_mth, ↓rO_call, ↓rO_comp, ↓rO_dsp, ↓rA_nil, ↓rA_cons, ↓rL_nil, ↓rL_cons, ↓rT_and, ↓rT_or, ↓rT_not, ↓rT_var, ↓rT_op, ↓rT_chain, ↓rT_call, ↓rT_cst, ↓rT_ife, ↓rI_seq, ↓rI_rng1, ↓rI_zip, ↓rB_nil, ↓rB_cons, ↓rS_asg, ↓rS_par, ↓rS_ex, ↓rS_ret, ↓rS_retN, ↓rS_iff, ↓rS_for, ↓rS_whl, ↓rS_rse, ↓rS_app, ↓rS_ext, ↓rS_sub, ↓run_pure, ↓run_bind, ↓run_ok, ↓run_exn, ↓run_bad, ↓r_getV, ↓got_some, ↓got_none, ↓got_map, ↓got_ite, ↓kB_bl, ↓gets_fz, ↓gets_un, ↓gets_tu, ↓movs_fz, ↓movs_un, ↓movs_tu, ↓next_next, ↓next_ret, ↓next_brk, ↓next_cnt, ↓ret_ret, ↓ret_exn, ↓ret_bad, ↓run_ite, ↓run_iteo, ↓run_of, ↓fin_ret, ↓fin_next, ↓finX_eq, ↓run_mbad, slot, rds, AV.rd, Own.simple, sv, Prim.run, Prim.ints, fzv, newl, outs, asgP, setAll, tupV, ownT, lstV, itemV, seqOf, lstOf, intOf, p_add, p_sub, p_mul, p_mod, p_fdiv, p_pow, p_neg, p_lt, p_le, p_gt, p_ge, p_isNone, p_notNone, p_idx, p_slLo, p_slHi, p_len, p_tuple, p_list, p_max2, p_min2, p_abs, p_int_, D.flat, passA, backA, takeA, frzA, List.getElem?_cons_zero, List.getElem?_cons_succ, Option.bind_some, Option.bind_none, id_eq, ↓reduceIte, List.map_cons, List.map_nil, List.cons_append, List.nil_append, List.replicate, List.set_cons_zero, List.set_cons_succ, and_true, true_and, and_self, eq_self, List.length_cons, List.length_nil, Nat.reduceAdd, Nat.reduceLeDiff, Nat.reduceLT, Bool.true_eq_false, Bool.false_eq_true, decide_true, decide_false, if_true, if_false, decide_eq_true_eq, Bool.and_eq_true, Bool.or_eq_true, List.all_cons, List.all_nil, Bool.and_true, Bool.and_self]
    have e3 : l.length = many := by simpa using h3
    refine ⟨Rows.of l, k, by rw [of_len]; exact e3, by rw [← e3]; exact h2, of_gen h1, ?_, rfl⟩
    rw [of_encs]
end Py

set_option Elab.async false
set_option linter.all false
set_option maxRecDepth 100000
set_option maxHeartbeats 4000000
namespace Py
open PySem
def RowRes (ks : List Str) (us : List Int) (d : Nat) (ts : List D) (v : Val) (io : List Val) : Prop := ∃ (r : Row) (k : Nat), k ≤ Bd d ∧ r.gen ks us d ∧ v = (r.enc, .fz) ∧ io = [town (ts ++ zs k)]
theorem ret_row {ks : List Str} {us : List Int} {d : Nat} {ts : List D} {o : COut} (h : Ret o (RowRes ks us d ts) fun _ _ => False) : ∃ (r : Row) (k : Nat), k ≤ Bd d ∧ r.gen ks us d ∧ o = .ret (r.enc, .fz) [town (ts ++ zs k)] := by
  cases o with
  | ret v io =>
    obtain ⟨r, k, a, b, rfl, rfl⟩ := h
    exact ⟨r, k, a, b, rfl⟩
  | exn c io => exact h.elim
  | bad => exact h.elim
theorem Bd_ge {d : Nat} (h : 1 ≤ d) : 12 ≤ Bd d := by
  cases d with
  | zero => omega
  | succ d => unfold Bd; omega
theorem encs_len : ∀ rs : Rows, rs.encs.length = rs.len
  | .nil => rfl
  | .cons r rs => by rw [Rows.encs, Rows.len, List.length_cons, encs_len rs]
def Rows.snoc : Rows → Row → Rows
  | .nil, x => .cons x .nil
  | .cons r rs, x => .cons r (rs.snoc x)
theorem snoc_encs (x : Row) : ∀ rs : Rows, (rs.snoc x).encs = rs.encs ++ [x.enc]
  | .nil => by rw [Rows.snoc, Rows.encs, Rows.encs]; rfl
  | .cons r rs => by rw [Rows.snoc, Rows.encs, snoc_encs x rs, Rows.encs]; rfl
theorem snoc_gen {ks : List Str} {us : List Int} {d : Nat} {x : Row} (hx : x.gen ks us d) : ∀ rs : Rows, rs.gen ks us d → (rs.snoc x).gen ks us d
  | .nil, _ => by rw [Rows.snoc, Rows.gen]; exact ⟨hx, by rw [Rows.gen]; trivial⟩
  | .cons r rs, h => by
    rw [Rows.gen] at h
    rw [Rows.snoc, Rows.gen]
    exact ⟨h.1, snoc_gen hx rs h.2⟩
theorem cut_take {α : Type} (xs : List α) {v : Int} (h : 0 ≤ v) : cut xs none (some v) = xs.take v.toNat := by
  unfold cut sIx
  dsimp only
  rw [if_neg (by omega), List.drop_zero, Nat.sub_zero, List.take_eq_take_iff]
  omega
theorem cut_drop {α : Type} (xs : List α) {v : Int} (h : 0 ≤ v) : cut xs (some v) none = xs.drop v.toNat := by
  unfold cut sIx
  dsimp only
  rw [if_neg (by omega)]
  by_cases c : v.toNat ≤ xs.length
  · rw [Nat.min_eq_left c, List.take_of_length_le (by rw [List.length_drop]; omega)]
  · rw [Nat.min_eq_right (by omega), List.drop_of_length_le (Nat.le_refl _), List.drop_of_length_le (by omega), List.take_nil]
theorem ints_take (us : List Int) (n : Nat) : (intsD us).take n = intsD (us.take n) := by unfold intsD; rw [List.map_take]
theorem ints_drop (us : List Int) (n : Nat) : (intsD us).drop n = intsD (us.drop n) := by unfold intsD; rw [List.map_drop]
theorem ints_plain : ∀ us : List Int, D.plains (intsD us) = true
  | [] => rfl
  | u :: us => by
    show (D.plain (.int u) && D.plains (intsD us)) = true
    rw [ints_plain us]; rfl
theorem ints_eq_nil (us : List Int) : (D.tup (intsD us)).eq? (.tup []) = some (decide (us = [])) := by
  unfold D.eq?
  have e1 : (D.tup (intsD us)).plain = true := by unfold D.plain; exact ints_plain us
  have e2 : (D.tup (intsD us)).eqv (.tup []) = decide (us = []) := by
    unfold D.eqv
    cases us with
    | nil => rfl
    | cons u us => simp [intsD, D.eqvs]
  rw [e1, e2]
  have e3 : min (D.tup (intsD us)).depth (D.tup []).depth ≤ 60 := Nat.le_trans (Nat.min_le_right _ _) (by decide)
  simp only [e3, decide_true, Bool.and_true, Bool.true_and, D.plain, D.plains, if_true]
theorem row_of_rows {P : Prg} (h : HasRow P) {d : Nat} (hd : 1 ≤ d) (hrs : 2 ≤ d → RowsOk P (d - 1)) : RowOk P d := by
  intro N ns ts us ks hN ha ht
  obtain ⟨N, rfl⟩ : ∃ M, N = M + 6 := ⟨N - 6, by omega⟩
  have hB := Bd_ge hd
  refine ret_row ?_
  refine call_run h.row rfl ?_
  simp only [fd__law_row, List.map_cons, List.map_nil, List.replicate, List.cons_append, List.nil_append]
  rw [rB_cons, rS_asg]
  refine row_kind h (N + 1) ns ts (intsD us) ks ha.kinds d hd (by omega) _ fun k hk hl => ?_
  obtain ⟨a, b, ma, mb, hab, e2⟩ := law_some_units h.toHasU N ns (ts ++ zs 1) us ha.ne ha.nd (by rw [town_len]; omega)
  obtain ⟨j, x, g3, e3⟩ := law_pick h.toHasDraw (N + 1) ns (ts ++ zs 3) (ds := [.int 1, .int 3, .int 9]) Sq.lst (by decide) (by rw [town_len]; omega)
  obtain ⟨m0, rfl, hm0, hm1⟩ : ∃ m0 : Int, x = .int m0 ∧ 0 < m0 ∧ m0 ≤ 9 := by
    match j, g3 with
    | 0, g => cases g; exact ⟨1, rfl, by decide, by decide⟩
    | 1, g => cases g; exact ⟨3, rfl, by decide, by decide⟩
    | 2, g => cases g; exact ⟨9, rfl, by decide, by decide⟩
    | j + 3, g => simp at g
  have e4 := law_draw h.toHasDraw (N + 2) ns (ts ++ zs 4) m0 hm0 (by rw [town_len]; omega)
  obtain ⟨d0, d1⟩ := drawn_lt ns (ts ++ zs 4) hm0
  rw [zs_app] at e2
  rw [zs1] at e3 e4
  generalize drawn ns (ts ++ zs 4) m0 = dm at e4 d0 d1
  have hin := ha.kinds.all k hk
  unfold kindsAll at hin
  simp only [List.mem_cons, List.not_mem_nil, or_false] at hin
  unfold town at e2 e3 e4 ⊢
  rcases hin with rfl | rfl | rfl | rfl | rfl | rfl
  · simp only [↓rE_cst, ↓rE_glb, ↓rE_var, ↓rE_mov, ↓rE_tup, ↓rE_lst, ↓rE_op, ↓rE_ife, ↓rE_and, ↓rE_or, ↓rE_not, ↓rE_chain, ↓rE_call, ↓rE_mth, ↓rE_comp, ↓rE_dsp, ↓rO_var, ↓rO_op, ↓rO_cst, ↓rO_glb, ↓rO_mov, ↓rO_tup, ↓rO_lst, ↓rO_ife, ↓rO_and, ↓rO_or, ↓rO_not, ↓rO_chain, ↓rO_mth, ↓rO_call, ↓rO_comp, ↓rO_dsp, ↓rA_nil, ↓rA_cons, ↓rL_nil, ↓rL_cons, ↓rT_and, ↓rT_or, ↓rT_not, ↓rT_var, ↓rT_op, ↓rT_chain, ↓rT_call, ↓rT_cst, ↓rT_ife, ↓rI_seq, ↓rI_rng1, ↓rI_zip, ↓rB_nil, ↓rB_cons, ↓rS_asg, ↓rS_par, ↓rS_ex, ↓rS_ret, ↓rS_retN, ↓rS_iff, ↓rS_for, ↓rS_whl, ↓rS_rse, ↓rS_app, ↓rS_ext, ↓rS_sub, ↓run_pure, ↓run_bind, ↓run_ok, ↓run_exn, ↓run_bad, ↓r_getV, ↓got_some, ↓got_none, ↓got_map, ↓got_ite, ↓kB_bl, ↓gets_fz, ↓gets_un, ↓gets_tu, ↓movs_fz, ↓movs_un, ↓movs_tu, ↓next_next, ↓next_ret, ↓next_brk, ↓next_cnt, ↓ret_ret, ↓ret_exn, ↓ret_bad, ↓run_ite, ↓run_iteo, ↓run_of, ↓fin_ret, ↓fin_next, ↓finX_eq, ↓run_mbad, slot, rds, AV.rd, Own.simple, sv, Prim.run, Prim.ints, fzv, newl, outs, asgP, setAll, tupV, ownT, lstV, itemV, seqOf, lstOf, intOf, p_add, p_sub, p_mul, p_mod, p_fdiv, p_pow, p_neg, p_lt, p_le, p_gt, p_ge, p_isNone, p_notNone, p_idx, p_slLo, p_slHi, p_len, p_tuple, p_list, p_max2, p_min2, p_abs, p_int_, D.flat, passA, backA, takeA, frzA, List.getElem?_cons_zero, List.getElem?_cons_succ, Option.bind_some, Option.bind_none, id_eq, ↓reduceIte, List.map_cons, List.map_nil, List.cons_append, List.nil_append, List.replicate, List.set_cons_zero, List.set_cons_succ, and_true, true_and, and_self, eq_self, List.length_cons, List.length_nil, Nat.reduceAdd, Nat.reduceLeDiff, Nat.reduceLT, Bool.true_eq_false, Bool.false_eq_true, decide_true, decide_false, if_true, if_false, decide_eq_true_eq, Bool.and_eq_true, Bool.or_eq_true, List.all_cons, List.all_nil, Bool.and_true, Bool.and_self, ↓run_callG h.units, ↓io__law_some_units, e2, ↓run_callG h.pick, ↓io__law_pick, e3, ↓run_callG h.draw, ↓io__law_draw, e4, in_2, p_eq, p_ne, eq_int, se_add_add, se_add_less, se_add_zero, se_add_if, se_add_while, se_add_beside, se_less_add, se_less_less, se_less_zero, se_less_if, se_less_while, se_less_beside, se_zero_add, se_zero_less, se_zero_zero, se_zero_if, se_zero_while, se_zero_beside, se_if_add, se_if_less, se_if_zero, se_if_if, se_if_while, se_if_beside, se_while_add, se_while_less, se_while_zero, se_while_if, se_while_while, se_while_beside, se_beside_add, se_beside_less, se_beside_zero, se_beside_if, se_beside_while, se_beside_beside, ss_add_less, ss_add_zero, ss_add_if, ss_add_while, ss_add_beside, ss_less_add, ss_less_zero, ss_less_if, ss_less_while, ss_less_beside, ss_zero_add, ss_zero_less, ss_zero_if, ss_zero_while, ss_zero_beside, ss_if_add, ss_if_less, ss_if_zero, ss_if_while, ss_if_beside, ss_while_add, ss_while_less, ss_while_zero, ss_while_if, ss_while_beside, ss_beside_add, ss_beside_less, ss_beside_zero, ss_beside_if, ss_beside_while, beq_self_eq_true, Bool.or_true, Bool.true_or, Bool.or_false, Bool.false_or, Bool.or_self, Option.map_some]
    refine ⟨by decide, by decide, ?_⟩
    by_cases c : a = b
    · rw [if_neg (by simp [c])]
      exact ⟨by decide, .zero a, 5, by omega, by rw [Row.gen]; exact ma, rfl, rfl⟩
    · rw [if_pos (by simp [c])]
      exact ⟨by decide, .sum false a b (1 + dm), 5, by omega, by rw [Row.gen]; exact ⟨ma, mb, c, by omega, by omega⟩, rfl, rfl⟩
  · simp only [↓rE_cst, ↓rE_glb, ↓rE_var, ↓rE_mov, ↓rE_tup, ↓rE_lst, ↓rE_op, ↓rE_ife, ↓rE_and, ↓rE_or, ↓rE_not, ↓rE_chain, ↓rE_call, ↓rE_mth, ↓rE_comp, ↓rE_dsp, ↓rO_var, ↓rO_op, ↓rO_cst, ↓rO_glb, ↓rO_mov, ↓rO_tup, ↓rO_lst, ↓rO_ife, ↓rO_and, ↓rO_or, ↓rO_not, ↓rO_chain, ↓rO_mth, ↓rO_call, ↓rO_comp, ↓rO_dsp, ↓rA_nil, ↓rA_cons, ↓rL_nil, ↓rL_cons, ↓rT_and, ↓rT_or, ↓rT_not, ↓rT_var, ↓rT_op, ↓rT_chain, ↓rT_call, ↓rT_cst, ↓rT_ife, ↓rI_seq, ↓rI_rng1, ↓rI_zip, ↓rB_nil, ↓rB_cons, ↓rS_asg, ↓rS_par, ↓rS_ex, ↓rS_ret, ↓rS_retN, ↓rS_iff, ↓rS_for, ↓rS_whl, ↓rS_rse, ↓rS_app, ↓rS_ext, ↓rS_sub, ↓run_pure, ↓run_bind, ↓run_ok, ↓run_exn, ↓run_bad, ↓r_getV, ↓got_some, ↓got_none, ↓got_map, ↓got_ite, ↓kB_bl, ↓gets_fz, ↓gets_un, ↓gets_tu, ↓movs_fz, ↓movs_un, ↓movs_tu, ↓next_next, ↓next_ret, ↓next_brk, ↓next_cnt, ↓ret_ret, ↓ret_exn, ↓ret_bad, ↓run_ite, ↓run_iteo, ↓run_of, ↓fin_ret, ↓fin_next, ↓finX_eq, ↓run_mbad, slot, rds, AV.rd, Own.simple, sv, Prim.run, Prim.ints, fzv, newl, outs, asgP, setAll, tupV, ownT, lstV, itemV, seqOf, lstOf, intOf, p_add, p_sub, p_mul, p_mod, p_fdiv, p_pow, p_neg, p_lt, p_le, p_gt, p_ge, p_isNone, p_notNone, p_idx, p_slLo, p_slHi, p_len, p_tuple, p_list, p_max2, p_min2, p_abs, p_int_, D.flat, passA, backA, takeA, frzA, List.getElem?_cons_zero, List.getElem?_cons_succ, Option.bind_some, Option.bind_none, id_eq, ↓reduceIte, List.map_cons, List.map_nil, List.cons_append, List.nil_append, List.replicate, List.set_cons_zero, List.set_cons_succ, and_true, true_and, and_self, eq_self, List.length_cons, List.length_nil, Nat.reduceAdd, Nat.reduceLeDiff, Nat.reduceLT, Bool.true_eq_false, Bool.false_eq_true, decide_true, decide_false, if_true, if_false, decide_eq_true_eq, Bool.and_eq_true, Bool.or_eq_true, List.all_cons, List.all_nil, Bool.and_true, Bool.and_self, ↓run_callG h.units, ↓io__law_some_units, e2, ↓run_callG h.pick, ↓io__law_pick, e3, ↓run_callG h.draw, ↓io__law_draw, e4, in_2, p_eq, p_ne, eq_int, se_add_add, se_add_less, se_add_zero, se_add_if, se_add_while, se_add_beside, se_less_add, se_less_less, se_less_zero, se_less_if, se_less_while, se_less_beside, se_zero_add, se_zero_less, se_zero_zero, se_zero_if, se_zero_while, se_zero_beside, se_if_add, se_if_less, se_if_zero, se_if_if, se_if_while, se_if_beside, se_while_add, se_while_less, se_while_zero, se_while_if, se_while_while, se_while_beside, se_beside_add, se_beside_less, se_beside_zero, se_beside_if, se_beside_while, se_beside_beside, ss_add_less, ss_add_zero, ss_add_if, ss_add_while, ss_add_beside, ss_less_add, ss_less_zero, ss_less_if, ss_less_while, ss_less_beside, ss_zero_add, ss_zero_less, ss_zero_if, ss_zero_while, ss_zero_beside, ss_if_add, ss_if_less, ss_if_zero, ss_if_while, ss_if_beside, ss_while_add, ss_while_less, ss_while_zero, ss_while_if, ss_while_beside, ss_beside_add, ss_beside_less, ss_beside_zero, ss_beside_if, ss_beside_while, beq_self_eq_true, Bool.or_true, Bool.true_or, Bool.or_false, Bool.false_or, Bool.or_self, Option.map_some]
    refine ⟨by decide, by decide, ?_⟩
    by_cases c : a = b
    · rw [if_neg (by simp [c])]
      exact ⟨by decide, .zero a, 5, by omega, by rw [Row.gen]; exact ma, rfl, rfl⟩
    · rw [if_pos (by simp [c])]
      exact ⟨by decide, .sum true a b (1 + dm), 5, by omega, by rw [Row.gen]; exact ⟨ma, mb, c, by omega, by omega⟩, rfl, rfl⟩
  · simp only [↓rE_cst, ↓rE_glb, ↓rE_var, ↓rE_mov, ↓rE_tup, ↓rE_lst, ↓rE_op, ↓rE_ife, ↓rE_and, ↓rE_or, ↓rE_not, ↓rE_chain, ↓rE_call, ↓rE_mth, ↓rE_comp, ↓rE_dsp, ↓rO_var, ↓rO_op, ↓rO_cst, ↓rO_glb, ↓rO_mov, ↓rO_tup, ↓rO_lst, ↓rO_ife, ↓rO_and, ↓rO_or, ↓rO_not, ↓rO_chain, ↓rO_mth, ↓rO_call, ↓rO_comp, ↓rO_dsp, ↓rA_nil, ↓rA_cons, ↓rL_nil, ↓rL_cons, ↓rT_and, ↓rT_or, ↓rT_not, ↓rT_var, ↓rT_op, ↓rT_chain, ↓rT_call, ↓rT_cst, ↓rT_ife, ↓rI_seq, ↓rI_rng1, ↓rI_zip, ↓rB_nil, ↓rB_cons, ↓rS_asg, ↓rS_par, ↓rS_ex, ↓rS_ret, ↓rS_retN, ↓rS_iff, ↓rS_for, ↓rS_whl, ↓rS_rse, ↓rS_app, ↓rS_ext, ↓rS_sub, ↓run_pure, ↓run_bind, ↓run_ok, ↓run_exn, ↓run_bad, ↓r_getV, ↓got_some, ↓got_none, ↓got_map, ↓got_ite, ↓kB_bl, ↓gets_fz, ↓gets_un, ↓gets_tu, ↓movs_fz, ↓movs_un, ↓movs_tu, ↓next_next, ↓next_ret, ↓next_brk, ↓next_cnt, ↓ret_ret, ↓ret_exn, ↓ret_bad, ↓run_ite, ↓run_iteo, ↓run_of, ↓fin_ret, ↓fin_next, ↓finX_eq, ↓run_mbad, slot, rds, AV.rd, Own.simple, sv, Prim.run, Prim.ints, fzv, newl, outs, asgP, setAll, tupV, ownT, lstV, itemV, seqOf, lstOf, intOf, p_add, p_sub, p_mul, p_mod, p_fdiv, p_pow, p_neg, p_lt, p_le, p_gt, p_ge, p_isNone, p_notNone, p_idx, p_slLo, p_slHi, p_len, p_tuple, p_list, p_max2, p_min2, p_abs, p_int_, D.flat, passA, backA, takeA, frzA, List.getElem?_cons_zero, List.getElem?_cons_succ, Option.bind_some, Option.bind_none, id_eq, ↓reduceIte, List.map_cons, List.map_nil, List.cons_append, List.nil_append, List.replicate, List.set_cons_zero, List.set_cons_succ, and_true, true_and, and_self, eq_self, List.length_cons, List.length_nil, Nat.reduceAdd, Nat.reduceLeDiff, Nat.reduceLT, Bool.true_eq_false, Bool.false_eq_true, decide_true, decide_false, if_true, if_false, decide_eq_true_eq, Bool.and_eq_true, Bool.or_eq_true, List.all_cons, List.all_nil, Bool.and_true, Bool.and_self, ↓run_callG h.units, ↓io__law_some_units, e2, ↓run_callG h.pick, ↓io__law_pick, e3, ↓run_callG h.draw, ↓io__law_draw, e4, in_2, p_eq, p_ne, eq_int, se_add_add, se_add_less, se_add_zero, se_add_if, se_add_while, se_add_beside, se_less_add, se_less_less, se_less_zero, se_less_if, se_less_while, se_less_beside, se_zero_add, se_zero_less, se_zero_zero, se_zero_if, se_zero_while, se_zero_beside, se_if_add, se_if_less, se_if_zero, se_if_if, se_if_while, se_if_beside, se_while_add, se_while_less, se_while_zero, se_while_if, se_while_while, se_while_beside, se_beside_add, se_beside_less, se_beside_zero, se_beside_if, se_beside_while, se_beside_beside, ss_add_less, ss_add_zero, ss_add_if, ss_add_while, ss_add_beside, ss_less_add, ss_less_zero, ss_less_if, ss_less_while, ss_less_beside, ss_zero_add, ss_zero_less, ss_zero_if, ss_zero_while, ss_zero_beside, ss_if_add, ss_if_less, ss_if_zero, ss_if_while, ss_if_beside, ss_while_add, ss_while_less, ss_while_zero, ss_while_if, ss_while_beside, ss_beside_add, ss_beside_less, ss_beside_zero, ss_beside_if, ss_beside_while, beq_self_eq_true, Bool.or_true, Bool.true_or, Bool.or_false, Bool.false_or, Bool.or_self, Option.map_some]
    exact ⟨by decide, by decide, by decide, .zero a, 5, by omega, by rw [Row.gen]; exact ma, rfl, rfl⟩
  all_goals
    have hd2 : 2 ≤ d := by
      by_cases c : d = 1
      · have := hl c
        unfold isLeaf at this
        simp only [ss_add_less, ss_add_zero, ss_add_if, ss_add_while, ss_add_beside, ss_less_add, ss_less_zero, ss_less_if, ss_less_while, ss_less_beside, ss_zero_add, ss_zero_less, ss_zero_if, ss_zero_while, ss_zero_beside, ss_if_add, ss_if_less, ss_if_zero, ss_if_while, ss_if_beside, ss_while_add, ss_while_less, ss_while_zero, ss_while_if, ss_while_beside, ss_beside_add, ss_beside_less, ss_beside_zero, ss_beside_if, ss_beside_while, Bool.or_self, Bool.false_eq_true] at this
      · omega
    have hR := hrs hd2
    obtain ⟨d', rfl⟩ : ∃ e, d = e + 2 := ⟨d - 2, by omega⟩
    have hBd : Bd (d' + 2) = 12 + 5 * Bd (d' + 1) := rfl
    have ed : ((d' + 2 : Nat) : Int) - 1 = ((d' + 1 : Nat) : Int) := by omega
    have e5 := law_draw h.toHasDraw (N + 2) ns (ts ++ zs 5) 2 (by decide) (by rw [town_len]; omega)
    obtain ⟨f0, f1⟩ := drawn_lt ns (ts ++ zs 5) (many := 2) (by decide)
    rw [zs1] at e5
    generalize drawn ns (ts ++ zs 5) 2 = df at e5 f0 f1
    obtain ⟨fw, ef, fw1, fw2⟩ : ∃ fw : Nat, 1 + df = (fw : Int) ∧ 1 ≤ fw ∧ fw ≤ 2 := ⟨(1 + df).toNat, by omega, by omega, by omega⟩
    unfold town at e5
  · have e6 := law_draw h.toHasDraw (N + 2) ns (ts ++ zs 6) 3 (by decide) (by rw [town_len]; omega)
    obtain ⟨g0, g1⟩ := drawn_lt ns (ts ++ zs 6) (many := 3) (by decide)
    rw [zs1] at e6
    generalize drawn ns (ts ++ zs 6) 3 = dg at e6 g0 g1
    obtain ⟨gw, eg, gw2⟩ : ∃ gw : Nat, dg = (gw : Int) ∧ gw ≤ 2 := ⟨dg.toNat, by omega, by omega⟩
    subst eg
    have q1 : gw * Bd (d' + 1) ≤ 2 * Bd (d' + 1) := Nat.mul_le_mul_right _ gw2
    have q2 : fw * Bd (d' + 1) ≤ 2 * Bd (d' + 1) := Nat.mul_le_mul_right _ fw2
    obtain ⟨r1, k1, l1, b1, c1, e7⟩ := hR (N + 5) ns (ts ++ zs 7) us ks gw (by omega) ha (by omega) (by rw [town_len]; show _ + gw * Bd (d' + 1) ≤ _; omega)
    replace b1 : k1 ≤ gw * Bd (d' + 1) := b1
    obtain ⟨r2, k2, l2, b2, c2, e8⟩ := hR (N + 5) ns (ts ++ zs (7 + k1)) us ks fw (by omega) ha (by omega) (by rw [town_len]; show _ + fw * Bd (d' + 1) ≤ _; omega)
    replace b2 : k2 ≤ fw * Bd (d' + 1) := b2
    rw [zs_app] at e7 e8
    simp only [Nat.add_sub_cancel, show d' + 2 - 1 = d' + 1 from rfl] at e7 e8
    unfold town at e6 e7 e8
    simp (config := { maxSteps := 3000000 }) only [↓rE_cst, ↓rE_glb, ↓rE_var, ↓rE_mov, ↓rE_tup, ↓rE_lst, ↓rE_op, ↓rE_ife, ↓rE_and, ↓rE_or, ↓rE_not, ↓rE_chain, ↓rE_call, ↓rE_mth, ↓rE_comp, ↓rE_dsp, ↓rO_var, ↓rO_op, ↓rO_cst, ↓rO_glb, ↓rO_mov, ↓rO_tup, ↓rO_lst, ↓rO_ife, ↓rO_and, ↓rO_or, ↓rO_not, ↓rO_chain, ↓rO_mth, ↓rO_call, ↓rO_comp, ↓rO_dsp, ↓rA_nil, ↓rA_cons, ↓rL_nil, ↓rL_cons, ↓rT_and, ↓rT_or, ↓rT_not, ↓rT_var, ↓rT_op, ↓rT_chain, ↓rT_call, ↓rT_cst, ↓rT_ife, ↓rI_seq, ↓rI_rng1, ↓rI_zip, ↓rB_nil, ↓rB_cons, ↓rS_asg, ↓rS_par, ↓rS_ex, ↓rS_ret, ↓rS_retN, ↓rS_iff, ↓rS_for, ↓rS_whl, ↓rS_rse, ↓rS_app, ↓rS_ext, ↓rS_sub, ↓run_pure, ↓run_bind, ↓run_ok, ↓run_exn, ↓run_bad, ↓r_getV, ↓got_some, ↓got_none, ↓got_map, ↓got_ite, ↓kB_bl, ↓gets_fz, ↓gets_un, ↓gets_tu, ↓movs_fz, ↓movs_un, ↓movs_tu, ↓next_next, ↓next_ret, ↓next_brk, ↓next_cnt, ↓ret_ret, ↓ret_exn, ↓ret_bad, ↓run_ite, ↓run_iteo, ↓run_of, ↓fin_ret, ↓fin_next, ↓finX_eq, ↓run_mbad, slot, rds, AV.rd, Own.simple, sv, Prim.run, Prim.ints, fzv, newl, outs, asgP, setAll, tupV, ownT, lstV, itemV, seqOf, lstOf, intOf, p_add, p_sub, p_mul, p_mod, p_fdiv, p_pow, p_neg, p_lt, p_le, p_gt, p_ge, p_isNone, p_notNone, p_idx, p_slLo, p_slHi, p_len, p_tuple, p_list, p_max2, p_min2, p_abs, p_int_, D.flat, passA, backA, takeA, frzA, List.getElem?_cons_zero, List.getElem?_cons_succ, Option.bind_some, Option.bind_none, id_eq, ↓reduceIte, List.map_cons, List.map_nil, List.cons_append, List.nil_append, List.replicate, List.set_cons_zero, List.set_cons_succ, and_true, true_and, and_self, eq_self, List.length_cons, List.length_nil, Nat.reduceAdd, Nat.reduceLeDiff, Nat.reduceLT, Bool.true_eq_false, Bool.false_eq_true, decide_true, decide_false, if_true, if_false, decide_eq_true_eq, Bool.and_eq_true, Bool.or_eq_true, List.all_cons, List.all_nil, Bool.and_true, Bool.and_self, ↓run_callG h.units, ↓io__law_some_units, e2, ↓run_callG h.pick, ↓io__law_pick, e3, ↓run_callG h.draw, ↓io__law_draw, e4, in_2, p_eq, p_ne, eq_int, se_add_add, se_add_less, se_add_zero, se_add_if, se_add_while, se_add_beside, se_less_add, se_less_less, se_less_zero, se_less_if, se_less_while, se_less_beside, se_zero_add, se_zero_less, se_zero_zero, se_zero_if, se_zero_while, se_zero_beside, se_if_add, se_if_less, se_if_zero, se_if_if, se_if_while, se_if_beside, se_while_add, se_while_less, se_while_zero, se_while_if, se_while_while, se_while_beside, se_beside_add, se_beside_less, se_beside_zero, se_beside_if, se_beside_while, se_beside_beside, ss_add_less, ss_add_zero, ss_add_if, ss_add_while, ss_add_beside, ss_less_add, ss_less_zero, ss_less_if, ss_less_while, ss_less_beside, ss_zero_add, ss_zero_less, ss_zero_if, ss_zero_while, ss_zero_beside, ss_if_add, ss_if_less, ss_if_zero, ss_if_while, ss_if_beside, ss_while_add, ss_while_less, ss_while_zero, ss_while_if, ss_while_beside, ss_beside_add, ss_beside_less, ss_beside_zero, ss_beside_if, ss_beside_while, beq_self_eq_true, Bool.or_true, Bool.true_or, Bool.or_false, Bool.false_or, Bool.or_self, Option.map_some, e5, ef, ed, e6, ↓run_callG h.rows, ↓io__law_rows, e7, e8]
    refine ⟨by decide, by decide, by decide, .iff a r2 r1, 7 + k1 + k2, by omega, ?_, rfl, rfl⟩
    rw [Row.gen]
    exact ⟨by omega, hk, ma, c2, c1⟩
  · have q2 : fw * Bd (d' + 1) ≤ 2 * Bd (d' + 1) := Nat.mul_le_mul_right _ fw2
    obtain ⟨r1, k1, l1, b1, c1, e7⟩ := hR (N + 5) ns (ts ++ zs 6) us ks fw (by omega) ha (by omega) (by rw [town_len]; show _ + fw * Bd (d' + 1) ≤ _; omega)
    replace b1 : k1 ≤ fw * Bd (d' + 1) := b1
    rw [zs_app] at e7
    simp only [show d' + 2 - 1 = d' + 1 from rfl] at e7
    unfold town at e7
    have hl1 : r1.encs.length ≤ 2 := by rw [encs_len, l1]; exact fw2
    by_cases c : a = b
    · simp (config := { maxSteps := 3000000 }) only [↓rE_cst, ↓rE_glb, ↓rE_var, ↓rE_mov, ↓rE_tup, ↓rE_lst, ↓rE_op, ↓rE_ife, ↓rE_and, ↓rE_or, ↓rE_not, ↓rE_chain, ↓rE_call, ↓rE_mth, ↓rE_comp, ↓rE_dsp, ↓rO_var, ↓rO_op, ↓rO_cst, ↓rO_glb, ↓rO_mov, ↓rO_tup, ↓rO_lst, ↓rO_ife, ↓rO_and, ↓rO_or, ↓rO_not, ↓rO_chain, ↓rO_mth, ↓rO_call, ↓rO_comp, ↓rO_dsp, ↓rA_nil, ↓rA_cons, ↓rL_nil, ↓rL_cons, ↓rT_and, ↓rT_or, ↓rT_not, ↓rT_var, ↓rT_op, ↓rT_chain, ↓rT_call, ↓rT_cst, ↓rT_ife, ↓rI_seq, ↓rI_rng1, ↓rI_zip, ↓rB_nil, ↓rB_cons, ↓rS_asg, ↓rS_par, ↓rS_ex, ↓rS_ret, ↓rS_retN, ↓rS_iff, ↓rS_for, ↓rS_whl, ↓rS_rse, ↓rS_app, ↓rS_ext, ↓rS_sub, ↓run_pure, ↓run_bind, ↓run_ok, ↓run_exn, ↓run_bad, ↓r_getV, ↓got_some, ↓got_none, ↓got_map, ↓got_ite, ↓kB_bl, ↓gets_fz, ↓gets_un, ↓gets_tu, ↓movs_fz, ↓movs_un, ↓movs_tu, ↓next_next, ↓next_ret, ↓next_brk, ↓next_cnt, ↓ret_ret, ↓ret_exn, ↓ret_bad, ↓run_ite, ↓run_iteo, ↓run_of, ↓fin_ret, ↓fin_next, ↓finX_eq, ↓run_mbad, slot, rds, AV.rd, Own.simple, sv, Prim.run, Prim.ints, fzv, newl, outs, asgP, setAll, tupV, ownT, lstV, itemV, seqOf, lstOf, intOf, p_add, p_sub, p_mul, p_mod, p_fdiv, p_pow, p_neg, p_lt, p_le, p_gt, p_ge, p_isNone, p_notNone, p_idx, p_slLo, p_slHi, p_len, p_tuple, p_list, p_max2, p_min2, p_abs, p_int_, D.flat, passA, backA, takeA, frzA, List.getElem?_cons_zero, List.getElem?_cons_succ, Option.bind_some, Option.bind_none, id_eq, ↓reduceIte, List.map_cons, List.map_nil, List.cons_append, List.nil_append, List.replicate, List.set_cons_zero, List.set_cons_succ, and_true, true_and, and_self, eq_self, List.length_cons, List.length_nil, Nat.reduceAdd, Nat.reduceLeDiff, Nat.reduceLT, Bool.true_eq_false, Bool.false_eq_true, decide_true, decide_false, if_true, if_false, decide_eq_true_eq, Bool.and_eq_true, Bool.or_eq_true, List.all_cons, List.all_nil, Bool.and_true, Bool.and_self, ↓run_callG h.units, ↓io__law_some_units, e2, ↓run_callG h.pick, ↓io__law_pick, e3, ↓run_callG h.draw, ↓io__law_draw, e4, in_2, p_eq, p_ne, eq_int, se_add_add, se_add_less, se_add_zero, se_add_if, se_add_while, se_add_beside, se_less_add, se_less_less, se_less_zero, se_less_if, se_less_while, se_less_beside, se_zero_add, se_zero_less, se_zero_zero, se_zero_if, se_zero_while, se_zero_beside, se_if_add, se_if_less, se_if_zero, se_if_if, se_if_while, se_if_beside, se_while_add, se_while_less, se_while_zero, se_while_if, se_while_while, se_while_beside, se_beside_add, se_beside_less, se_beside_zero, se_beside_if, se_beside_while, se_beside_beside, ss_add_less, ss_add_zero, ss_add_if, ss_add_while, ss_add_beside, ss_less_add, ss_less_zero, ss_less_if, ss_less_while, ss_less_beside, ss_zero_add, ss_zero_less, ss_zero_if, ss_zero_while, ss_zero_beside, ss_if_add, ss_if_less, ss_if_zero, ss_if_while, ss_if_beside, ss_while_add, ss_while_less, ss_while_zero, ss_while_if, ss_while_beside, ss_beside_add, ss_beside_less, ss_beside_zero, ss_beside_if, ss_beside_while, beq_self_eq_true, Bool.or_true, Bool.true_or, Bool.or_false, Bool.false_or, Bool.or_self, Option.map_some, e5, ef, ed, ↓run_callG h.rows, ↓io__law_rows, e7, c, Bool.not_true]
      refine ⟨by decide, by decide, by decide, by decide, ?_⟩
      rw [if_pos (by decide), if_pos (by show r1.encs.length + 0 ≤ big; unfold big; omega)]
      refine ⟨by decide, .whl b r1, 6 + k1, by omega, by rw [Row.gen]; exact ⟨by omega, hk, mb, c1⟩, ?_, rfl⟩
      show (D.tup [_, _, D.tup (r1.encs ++ [])], Own.fz) = _
      rw [List.append_nil]
      rfl
    · simp (config := { maxSteps := 3000000 }) only [↓rE_cst, ↓rE_glb, ↓rE_var, ↓rE_mov, ↓rE_tup, ↓rE_lst, ↓rE_op, ↓rE_ife, ↓rE_and, ↓rE_or, ↓rE_not, ↓rE_chain, ↓rE_call, ↓rE_mth, ↓rE_comp, ↓rE_dsp, ↓rO_var, ↓rO_op, ↓rO_cst, ↓rO_glb, ↓rO_mov, ↓rO_tup, ↓rO_lst, ↓rO_ife, ↓rO_and, ↓rO_or, ↓rO_not, ↓rO_chain, ↓rO_mth, ↓rO_call, ↓rO_comp, ↓rO_dsp, ↓rA_nil, ↓rA_cons, ↓rL_nil, ↓rL_cons, ↓rT_and, ↓rT_or, ↓rT_not, ↓rT_var, ↓rT_op, ↓rT_chain, ↓rT_call, ↓rT_cst, ↓rT_ife, ↓rI_seq, ↓rI_rng1, ↓rI_zip, ↓rB_nil, ↓rB_cons, ↓rS_asg, ↓rS_par, ↓rS_ex, ↓rS_ret, ↓rS_retN, ↓rS_iff, ↓rS_for, ↓rS_whl, ↓rS_rse, ↓rS_app, ↓rS_ext, ↓rS_sub, ↓run_pure, ↓run_bind, ↓run_ok, ↓run_exn, ↓run_bad, ↓r_getV, ↓got_some, ↓got_none, ↓got_map, ↓got_ite, ↓kB_bl, ↓gets_fz, ↓gets_un, ↓gets_tu, ↓movs_fz, ↓movs_un, ↓movs_tu, ↓next_next, ↓next_ret, ↓next_brk, ↓next_cnt, ↓ret_ret, ↓ret_exn, ↓ret_bad, ↓run_ite, ↓run_iteo, ↓run_of, ↓fin_ret, ↓fin_next, ↓finX_eq, ↓run_mbad, slot, rds, AV.rd, Own.simple, sv, Prim.run, Prim.ints, fzv, newl, outs, asgP, setAll, tupV, ownT, lstV, itemV, seqOf, lstOf, intOf, p_add, p_sub, p_mul, p_mod, p_fdiv, p_pow, p_neg, p_lt, p_le, p_gt, p_ge, p_isNone, p_notNone, p_idx, p_slLo, p_slHi, p_len, p_tuple, p_list, p_max2, p_min2, p_abs, p_int_, D.flat, passA, backA, takeA, frzA, List.getElem?_cons_zero, List.getElem?_cons_succ, Option.bind_some, Option.bind_none, id_eq, ↓reduceIte, List.map_cons, List.map_nil, List.cons_append, List.nil_append, List.replicate, List.set_cons_zero, List.set_cons_succ, and_true, true_and, and_self, eq_self, List.length_cons, List.length_nil, Nat.reduceAdd, Nat.reduceLeDiff, Nat.reduceLT, Bool.true_eq_false, Bool.false_eq_true, decide_true, decide_false, if_true, if_false, decide_eq_true_eq, Bool.and_eq_true, Bool.or_eq_true, List.all_cons, List.all_nil, Bool.and_true, Bool.and_self, ↓run_callG h.units, ↓io__law_some_units, e2, ↓run_callG h.pick, ↓io__law_pick, e3, ↓run_callG h.draw, ↓io__law_draw, e4, in_2, p_eq, p_ne, eq_int, se_add_add, se_add_less, se_add_zero, se_add_if, se_add_while, se_add_beside, se_less_add, se_less_less, se_less_zero, se_less_if, se_less_while, se_less_beside, se_zero_add, se_zero_less, se_zero_zero, se_zero_if, se_zero_while, se_zero_beside, se_if_add, se_if_less, se_if_zero, se_if_if, se_if_while, se_if_beside, se_while_add, se_while_less, se_while_zero, se_while_if, se_while_while, se_while_beside, se_beside_add, se_beside_less, se_beside_zero, se_beside_if, se_beside_while, se_beside_beside, ss_add_less, ss_add_zero, ss_add_if, ss_add_while, ss_add_beside, ss_less_add, ss_less_zero, ss_less_if, ss_less_while, ss_less_beside, ss_zero_add, ss_zero_less, ss_zero_if, ss_zero_while, ss_zero_beside, ss_if_add, ss_if_less, ss_if_zero, ss_if_while, ss_if_beside, ss_while_add, ss_while_less, ss_while_zero, ss_while_if, ss_while_beside, ss_beside_add, ss_beside_less, ss_beside_zero, ss_beside_if, ss_beside_while, beq_self_eq_true, Bool.or_true, Bool.true_or, Bool.or_false, Bool.false_or, Bool.or_self, Option.map_some, e5, ef, ed, ↓run_callG h.rows, ↓io__law_rows, e7, c, Bool.not_false]
      refine ⟨by decide, by decide, by decide, by decide, ?_⟩
      rw [if_pos (by decide), if_pos (by show r1.encs.length + 1 ≤ big; unfold big; omega)]
      refine ⟨by decide, .whl a (r1.snoc (.sum true a b 1)), 6 + k1, by omega, ?_, ?_, rfl⟩
      · rw [Row.gen]
        exact ⟨by omega, hk, ma, snoc_gen (by rw [Row.gen]; exact ⟨ma, mb, c, by omega, by omega⟩) r1 c1⟩
      · rw [Row.enc, snoc_encs]
        rfl
  · generalize hmx : (if ((intsD us).length : Int) - 1 > 1 then ((intsD us).length : Int) - 1 else 1) = mx
    have hmx0 : 0 < mx := by
      rw [← hmx]
      split <;> omega
    have e6 := law_draw h.toHasDraw (N + 2) ns (ts ++ zs 6) mx hmx0 (by rw [town_len]; omega)
    obtain ⟨g0, g1⟩ := drawn_lt ns (ts ++ zs 6) hmx0
    rw [zs1] at e6
    generalize drawn ns (ts ++ zs 6) mx = da at e6 g0 g1
    obtain ⟨aw, ea, aw1⟩ : ∃ aw : Nat, 1 + da = (aw : Int) ∧ 1 ≤ aw := ⟨(1 + da).toNat, by omega, by omega⟩
    have ec1 : cut (intsD us) none (some (aw : Int)) = intsD (us.take aw) := by rw [cut_take _ (by omega), ints_take]; rfl
    have ec2 : cut (intsD us) (some (aw : Int)) none = intsD (us.drop aw) := by rw [cut_drop _ (by omega), ints_drop]; rfl
    have q2 : fw * Bd (d' + 1) ≤ 2 * Bd (d' + 1) := Nat.mul_le_mul_right _ fw2
    have ha1 : Ask (us.take aw) ks := ⟨ha.nd.sublist (List.take_sublist _ _), by rw [List.length_take]; have := ha.ne; omega, ha.kinds⟩
    obtain ⟨r1, k1, l1, b1, c1, e7⟩ := hR (N + 5) ns (ts ++ zs 7) (us.take aw) ks fw (by omega) ha1 (by omega) (by rw [town_len]; show _ + fw * Bd (d' + 1) ≤ _; omega)
    replace b1 : k1 ≤ fw * Bd (d' + 1) := b1
    rw [zs_app] at e7
    simp only [show d' + 2 - 1 = d' + 1 from rfl] at e7
    have en := ints_eq_nil (us.drop aw)
    by_cases cn : us.drop aw = []
    · have e9 := law_draw h.toHasDraw (N + 2) ns (ts ++ zs (7 + k1)) 2 (by decide) (by rw [town_len]; omega)
      rw [zs1] at e9
      generalize drawn ns (ts ++ zs (7 + k1)) 2 = dl at e9
      rw [cn] at en ec2
      have en' : (D.tup (intsD [])).eq? (.tup []) = some true := en
      unfold town at e6 e7 e9
      simp (config := { maxSteps := 3000000 }) only [↓rE_cst, ↓rE_glb, ↓rE_var, ↓rE_mov, ↓rE_tup, ↓rE_lst, ↓rE_op, ↓rE_ife, ↓rE_and, ↓rE_or, ↓rE_not, ↓rE_chain, ↓rE_call, ↓rE_mth, ↓rE_comp, ↓rE_dsp, ↓rO_var, ↓rO_op, ↓rO_cst, ↓rO_glb, ↓rO_mov, ↓rO_tup, ↓rO_lst, ↓rO_ife, ↓rO_and, ↓rO_or, ↓rO_not, ↓rO_chain, ↓rO_mth, ↓rO_call, ↓rO_comp, ↓rO_dsp, ↓rA_nil, ↓rA_cons, ↓rL_nil, ↓rL_cons, ↓rT_and, ↓rT_or, ↓rT_not, ↓rT_var, ↓rT_op, ↓rT_chain, ↓rT_call, ↓rT_cst, ↓rT_ife, ↓rI_seq, ↓rI_rng1, ↓rI_zip, ↓rB_nil, ↓rB_cons, ↓rS_asg, ↓rS_par, ↓rS_ex, ↓rS_ret, ↓rS_retN, ↓rS_iff, ↓rS_for, ↓rS_whl, ↓rS_rse, ↓rS_app, ↓rS_ext, ↓rS_sub, ↓run_pure, ↓run_bind, ↓run_ok, ↓run_exn, ↓run_bad, ↓r_getV, ↓got_some, ↓got_none, ↓got_map, ↓got_ite, ↓kB_bl, ↓gets_fz, ↓gets_un, ↓gets_tu, ↓movs_fz, ↓movs_un, ↓movs_tu, ↓next_next, ↓next_ret, ↓next_brk, ↓next_cnt, ↓ret_ret, ↓ret_exn, ↓ret_bad, ↓run_ite, ↓run_iteo, ↓run_of, ↓fin_ret, ↓fin_next, ↓finX_eq, ↓run_mbad, slot, rds, AV.rd, Own.simple, sv, Prim.run, Prim.ints, fzv, newl, outs, asgP, setAll, tupV, ownT, lstV, itemV, seqOf, lstOf, intOf, p_add, p_sub, p_mul, p_mod, p_fdiv, p_pow, p_neg, p_lt, p_le, p_gt, p_ge, p_isNone, p_notNone, p_idx, p_slLo, p_slHi, p_len, p_tuple, p_list, p_max2, p_min2, p_abs, p_int_, D.flat, passA, backA, takeA, frzA, List.getElem?_cons_zero, List.getElem?_cons_succ, Option.bind_some, Option.bind_none, id_eq, ↓reduceIte, List.map_cons, List.map_nil, List.cons_append, List.nil_append, List.replicate, List.set_cons_zero, List.set_cons_succ, and_true, true_and, and_self, eq_self, List.length_cons, List.length_nil, Nat.reduceAdd, Nat.reduceLeDiff, Nat.reduceLT, Bool.true_eq_false, Bool.false_eq_true, decide_true, decide_false, if_true, if_false, decide_eq_true_eq, Bool.and_eq_true, Bool.or_eq_true, List.all_cons, List.all_nil, Bool.and_true, Bool.and_self, ↓run_callG h.units, ↓io__law_some_units, e2, ↓run_callG h.pick, ↓io__law_pick, e3, ↓run_callG h.draw, ↓io__law_draw, e4, in_2, p_eq, p_ne, eq_int, se_add_add, se_add_less, se_add_zero, se_add_if, se_add_while, se_add_beside, se_less_add, se_less_less, se_less_zero, se_less_if, se_less_while, se_less_beside, se_zero_add, se_zero_less, se_zero_zero, se_zero_if, se_zero_while, se_zero_beside, se_if_add, se_if_less, se_if_zero, se_if_if, se_if_while, se_if_beside, se_while_add, se_while_less, se_while_zero, se_while_if, se_while_while, se_while_beside, se_beside_add, se_beside_less, se_beside_zero, se_beside_if, se_beside_while, se_beside_beside, ss_add_less, ss_add_zero, ss_add_if, ss_add_while, ss_add_beside, ss_less_add, ss_less_zero, ss_less_if, ss_less_while, ss_less_beside, ss_zero_add, ss_zero_less, ss_zero_if, ss_zero_while, ss_zero_beside, ss_if_add, ss_if_less, ss_if_zero, ss_if_while, ss_if_beside, ss_while_add, ss_while_less, ss_while_zero, ss_while_if, ss_while_beside, ss_beside_add, ss_beside_less, ss_beside_zero, ss_beside_if, ss_beside_while, beq_self_eq_true, Bool.or_true, Bool.true_or, Bool.or_false, Bool.false_or, Bool.or_self, Option.map_some, e5, ef, ed, hmx, e6, ea, ec1, ec2, en', ↓run_callG h.rows, ↓io__law_rows, e7, e9, Bool.not_true]
      refine ⟨by decide, by decide, by decide, by decide, ?_⟩
      split
      · refine ⟨by decide, .beside r1 .nil, 7 + k1 + 1, by omega, ?_, rfl, rfl⟩
        rw [Row.gen]
        exact ⟨by omega, hk, us.take aw, us.drop aw, List.take_append_drop _ _, .inl ⟨c1, by rw [Rows.gen]; trivial, by omega⟩⟩
      · refine ⟨by decide, .beside .nil r1, 7 + k1 + 1, by omega, ?_, rfl, rfl⟩
        rw [Row.gen]
        exact ⟨by omega, hk, us.take aw, us.drop aw, List.take_append_drop _ _, .inr ⟨by rw [Rows.gen]; trivial, c1, by omega⟩⟩
    · have e8 := law_draw h.toHasDraw (N + 2) ns (ts ++ zs (7 + k1)) 3 (by decide) (by rw [town_len]; omega)
      obtain ⟨p0, p1⟩ := drawn_lt ns (ts ++ zs (7 + k1)) (many := 3) (by decide)
      rw [zs1] at e8
      generalize drawn ns (ts ++ zs (7 + k1)) 3 = dg at e8 p0 p1
      obtain ⟨gw, eg, gw2⟩ : ∃ gw : Nat, dg = (gw : Int) ∧ gw ≤ 2 := ⟨dg.toNat, by omega, by omega⟩
      subst eg
      have q1 : gw * Bd (d' + 1) ≤ 2 * Bd (d' + 1) := Nat.mul_le_mul_right _ gw2
      have ha2 : Ask (us.drop aw) ks := ⟨ha.nd.sublist (List.drop_sublist _ _), List.length_pos_iff.mpr cn, ha.kinds⟩
      obtain ⟨r2, k2, l2, b2, c2, e10⟩ := hR (N + 5) ns (ts ++ zs (7 + k1 + 1)) (us.drop aw) ks gw (by omega) ha2 (by omega) (by rw [town_len]; show _ + gw * Bd (d' + 1) ≤ _; omega)
      replace b2 : k2 ≤ gw * Bd (d' + 1) := b2
      rw [zs_app] at e10
      simp only [show d' + 2 - 1 = d' + 1 from rfl] at e10
      have e9 := law_draw h.toHasDraw (N + 2) ns (ts ++ zs (7 + k1 + 1 + k2)) 2 (by decide) (by rw [town_len]; omega)
      rw [zs1] at e9
      generalize drawn ns (ts ++ zs (7 + k1 + 1 + k2)) 2 = dl at e9
      have en' : (D.tup (intsD (us.drop aw))).eq? (.tup []) = some false := by rw [en]; simp [cn]
      unfold town at e6 e7 e8 e9 e10
      simp (config := { maxSteps := 3000000 }) only [↓rE_cst, ↓rE_glb, ↓rE_var, ↓rE_mov, ↓rE_tup, ↓rE_lst, ↓rE_op, ↓rE_ife, ↓rE_and, ↓rE_or, ↓rE_not, ↓rE_chain, ↓rE_call, ↓rE_mth, ↓rE_comp, ↓rE_dsp, ↓rO_var, ↓rO_op, ↓rO_cst, ↓rO_glb, ↓rO_mov, ↓rO_tup, ↓rO_lst, ↓rO_ife, ↓rO_and, ↓rO_or, ↓rO_not, ↓rO_chain, ↓rO_mth, ↓rO_call, ↓rO_comp, ↓rO_dsp, ↓rA_nil, ↓rA_cons, ↓rL_nil, ↓rL_cons, ↓rT_and, ↓rT_or, ↓rT_not, ↓rT_var, ↓rT_op, ↓rT_chain, ↓rT_call, ↓rT_cst, ↓rT_ife, ↓rI_seq, ↓rI_rng1, ↓rI_zip, ↓rB_nil, ↓rB_cons, ↓rS_asg, ↓rS_par, ↓rS_ex, ↓rS_ret, ↓rS_retN, ↓rS_iff, ↓rS_for, ↓rS_whl, ↓rS_rse, ↓rS_app, ↓rS_ext, ↓rS_sub, ↓run_pure, ↓run_bind, ↓run_ok, ↓run_exn, ↓run_bad, ↓r_getV, ↓got_some, ↓got_none, ↓got_map, ↓got_ite, ↓kB_bl, ↓gets_fz, ↓gets_un, ↓gets_tu, ↓movs_fz, ↓movs_un, ↓movs_tu, ↓next_next, ↓next_ret, ↓next_brk, ↓next_cnt, ↓ret_ret, ↓ret_exn, ↓ret_bad, ↓run_ite, ↓run_iteo, ↓run_of, ↓fin_ret, ↓fin_next, ↓finX_eq, ↓run_mbad, slot, rds, AV.rd, Own.simple, sv, Prim.run, Prim.ints, fzv, newl, outs, asgP, setAll, tupV, ownT, lstV, itemV, seqOf, lstOf, intOf, p_add, p_sub, p_mul, p_mod, p_fdiv, p_pow, p_neg, p_lt, p_le, p_gt, p_ge, p_isNone, p_notNone, p_idx, p_slLo, p_slHi, p_len, p_tuple, p_list, p_max2, p_min2, p_abs, p_int_, D.flat, passA, backA, takeA, frzA, List.getElem?_cons_zero, List.getElem?_cons_succ, Option.bind_some, Option.bind_none, id_eq, ↓reduceIte, List.map_cons, List.map_nil, List.cons_append, List.nil_append, List.replicate, List.set_cons_zero, List.set_cons_succ, and_true, true_and, and_self, eq_self, List.length_cons, List.length_nil, Nat.reduceAdd, Nat.reduceLeDiff, Nat.reduceLT, Bool.true_eq_false, Bool.false_eq_true, decide_true, decide_false, if_true, if_false, decide_eq_true_eq, Bool.and_eq_true, Bool.or_eq_true, List.all_cons, List.all_nil, Bool.and_true, Bool.and_self, ↓run_callG h.units, ↓io__law_some_units, e2, ↓run_callG h.pick, ↓io__law_pick, e3, ↓run_callG h.draw, ↓io__law_draw, e4, in_2, p_eq, p_ne, eq_int, se_add_add, se_add_less, se_add_zero, se_add_if, se_add_while, se_add_beside, se_less_add, se_less_less, se_less_zero, se_less_if, se_less_while, se_less_beside, se_zero_add, se_zero_less, se_zero_zero, se_zero_if, se_zero_while, se_zero_beside, se_if_add, se_if_less, se_if_zero, se_if_if, se_if_while, se_if_beside, se_while_add, se_while_less, se_while_zero, se_while_if, se_while_while, se_while_beside, se_beside_add, se_beside_less, se_beside_zero, se_beside_if, se_beside_while, se_beside_beside, ss_add_less, ss_add_zero, ss_add_if, ss_add_while, ss_add_beside, ss_less_add, ss_less_zero, ss_less_if, ss_less_while, ss_less_beside, ss_zero_add, ss_zero_less, ss_zero_if, ss_zero_while, ss_zero_beside, ss_if_add, ss_if_less, ss_if_zero, ss_if_while, ss_if_beside, ss_while_add, ss_while_less, ss_while_zero, ss_while_if, ss_while_beside, ss_beside_add, ss_beside_less, ss_beside_zero, ss_beside_if, ss_beside_while, beq_self_eq_true, Bool.or_true, Bool.true_or, Bool.or_false, Bool.false_or, Bool.or_self, Option.map_some, e5, ef, ed, hmx, e6, ea, ec1, ec2, en', ↓run_callG h.rows, ↓io__law_rows, e7, e8, e9, e10, Bool.not_false]
      refine ⟨by decide, by decide, by decide, by decide, ?_⟩
      split
      · refine ⟨by decide, .beside r1 r2, 7 + k1 + 1 + k2 + 1, by omega, ?_, rfl, rfl⟩
        rw [Row.gen]
        exact ⟨by omega, hk, us.take aw, us.drop aw, List.take_append_drop _ _, .inl ⟨c1, c2, by omega⟩⟩
      · refine ⟨by decide, .beside r2 r1, 7 + k1 + 1 + k2 + 1, by omega, ?_, rfl, rfl⟩
        rw [Row.gen]
        exact ⟨by omega, hk, us.take aw, us.drop aw, List.take_append_drop _ _, .inr ⟨c2, c1, by omega⟩⟩
theorem row_all {P : Prg} (h : HasRow P) : ∀ d : Nat, 1 ≤ d → RowOk P d ∧ RowsOk P d
  | 0, hd => absurd hd (by decide)
  | 1, hd => by
    have r := row_of_rows h (d := 1) (by decide) fun z => absurd z (by decide)
    exact ⟨r, rows_of_row h r⟩
  | d + 2, hd => by
    have ih := row_all h (d + 1) (by omega)
    have r := row_of_rows h (d := d + 2) (by omega) fun _ => ih.2
    exact ⟨r, rows_of_row h r⟩
end Py

set_option Elab.async false
set_option linter.all false
set_option maxRecDepth 100000
set_option maxHeartbeats 4000000
namespace Py
open PySem
mutual
def Row.cnt : Row → Nat
  | .sum _ _ _ _ => 1
  | .zero _ => 1
  | .iff _ x y => 1 + (x.cnt + y.cnt)
  | .whl _ x => 1 + x.cnt
  | .beside x y => 1 + (x.cnt + y.cnt)
def Rows.cnt : Rows → Nat
  | .nil => 0
  | .cons r rs => r.cnt + rs.cnt
end
def Row.inner : Row → List Rows
  | .sum _ _ _ _ => []
  | .zero _ => []
  | .iff _ x y => [x, y]
  | .whl _ x => [x]
  | .beside x y => [x, y]
def encT (rs : Rows) : D := .tup rs.encs
theorem cut2 {α : Type} (a b : α) (xs : List α) : cut (a :: b :: xs) (some 2) none = xs := by
  rw [cut_drop _ (by decide)]; rfl
theorem cut1 {α : Type} (a : α) (xs : List α) : cut (a :: xs) (some 1) none = xs := by
  rw [cut_drop _ (by decide)]; rfl
theorem law_inner {P : Prg} (h : P.fn "_law_inner" = some fd__law_inner) (n : Nat) (r : Row) : callF P (n + 1) "_law_inner" [(r.enc, .fz)] = .ret (.lst (r.inner.map encT), .un .fz) [] := by
  refine Ret.eq (call_run h rfl ?_)
  have a0 : ∀ (x : D) (xs : List D), atI (x :: xs) 0 = some x := fun x xs => by
    obtain ⟨v, e, q⟩ := atI_some (xs := x :: xs) (k := 0) (by decide) (by rw [List.length_cons]; omega)
    rw [e]; simpa using q.symm
  cases r with
  | sum l a b m => cases l <;> simp only [Row.enc, Row.inner, fd__law_inner, ↓rE_cst, ↓rE_glb, ↓rE_var, ↓rE_mov, ↓rE_tup, ↓rE_lst, ↓rE_op, ↓rE_ife, ↓rE_and, ↓rE_or, ↓rE_not, ↓rE_chain, ↓rE_call, ↓rE_mth, ↓rE_comp, ↓rE_dsp, ↓rO_var, ↓rO_op, ↓rO_cst, ↓rO_glb, ↓rO_mov, ↓rO_tup, ↓rO_lst, ↓rO_ife, ↓rO_and, ↓rO_or, ↓rO_not, ↓rO_chain, ↓rO_mth, ↓rO_call, ↓rO_comp, ↓rO_dsp, ↓rA_nil, ↓rA_cons, ↓rL_nil, ↓rL_cons, ↓rT_and, ↓rT_or, ↓rT_not, ↓rT_var, ↓rT_op, ↓rT_chain, ↓rT_call, ↓rT_cst, ↓rT_ife, ↓rI_seq, ↓rI_rng1, ↓rI_zip, ↓rB_nil, ↓rB_cons, ↓rS_asg, ↓rS_par, ↓rS_ex, ↓rS_ret, ↓rS_retN, ↓rS_iff, ↓rS_for, ↓rS_whl, ↓rS_rse, ↓rS_app, ↓rS_ext, ↓rS_sub, ↓run_pure, ↓run_bind, ↓run_ok, ↓run_exn, ↓run_bad, ↓r_getV, ↓got_some, ↓got_none, ↓got_map, ↓got_ite, ↓kB_bl, ↓gets_fz, ↓gets_un, ↓gets_tu, ↓movs_fz, ↓movs_un, ↓movs_tu, ↓next_next, ↓next_ret, ↓next_brk, ↓next_cnt, ↓ret_ret, ↓ret_exn, ↓ret_bad, ↓run_ite, ↓run_iteo, ↓run_of, ↓fin_ret, ↓fin_next, ↓finX_eq, ↓run_mbad, slot, rds, AV.rd, Own.simple, sv, Prim.run, Prim.ints, fzv, newl, outs, asgP, setAll, tupV, ownT, lstV, itemV, seqOf, lstOf, intOf, p_add, p_sub, p_mul, p_mod, p_fdiv, p_pow, p_neg, p_lt, p_le, p_gt, p_ge, p_isNone, p_notNone, p_idx, p_slLo, p_slHi, p_len, p_tuple, p_list, p_max2, p_min2, p_abs, p_int_, D.flat, passA, backA, takeA, frzA, List.getElem?_cons_zero, List.getElem?_cons_succ, Option.bind_some, Option.bind_none, id_eq, ↓reduceIte, List.map_cons, List.map_nil, List.cons_append, List.nil_append, List.replicate, List.set_cons_zero, List.set_cons_succ, and_true, true_and, and_self, eq_self, List.length_cons, List.length_nil, Nat.reduceAdd, Nat.reduceLeDiff, Nat.reduceLT, Bool.true_eq_false, Bool.false_eq_true, decide_true, decide_false, if_true, if_false, decide_eq_true_eq, Bool.and_eq_true, Bool.or_eq_true, List.all_cons, List.all_nil, Bool.and_true, Bool.and_self, a0, in_2, p_eq, se_add_add, se_add_less, se_add_zero, se_add_if, se_add_while, se_add_beside, se_less_add, se_less_less, se_less_zero, se_less_if, se_less_while, se_less_beside, se_zero_add, se_zero_less, se_zero_zero, se_zero_if, se_zero_while, se_zero_beside, se_if_add, se_if_less, se_if_zero, se_if_if, se_if_while, se_if_beside, se_while_add, se_while_less, se_while_zero, se_while_if, se_while_while, se_while_beside, se_beside_add, se_beside_less, se_beside_zero, se_beside_if, se_beside_while, se_beside_beside, ss_add_less, ss_add_zero, ss_add_if, ss_add_while, ss_add_beside, ss_less_add, ss_less_zero, ss_less_if, ss_less_while, ss_less_beside, ss_zero_add, ss_zero_less, ss_zero_if, ss_zero_while, ss_zero_beside, ss_if_add, ss_if_less, ss_if_zero, ss_if_while, ss_if_beside, ss_while_add, ss_while_less, ss_while_zero, ss_while_if, ss_while_beside, ss_beside_add, ss_beside_less, ss_beside_zero, ss_beside_if, ss_beside_while, beq_self_eq_true, Bool.or_true, Bool.true_or, Bool.or_false, Bool.false_or, Bool.or_self, Option.map_some, big]
  | zero a => simp only [Row.enc, Row.inner, fd__law_inner, ↓rE_cst, ↓rE_glb, ↓rE_var, ↓rE_mov, ↓rE_tup, ↓rE_lst, ↓rE_op, ↓rE_ife, ↓rE_and, ↓rE_or, ↓rE_not, ↓rE_chain, ↓rE_call, ↓rE_mth, ↓rE_comp, ↓rE_dsp, ↓rO_var, ↓rO_op, ↓rO_cst, ↓rO_glb, ↓rO_mov, ↓rO_tup, ↓rO_lst, ↓rO_ife, ↓rO_and, ↓rO_or, ↓rO_not, ↓rO_chain, ↓rO_mth, ↓rO_call, ↓rO_comp, ↓rO_dsp, ↓rA_nil, ↓rA_cons, ↓rL_nil, ↓rL_cons, ↓rT_and, ↓rT_or, ↓rT_not, ↓rT_var, ↓rT_op, ↓rT_chain, ↓rT_call, ↓rT_cst, ↓rT_ife, ↓rI_seq, ↓rI_rng1, ↓rI_zip, ↓rB_nil, ↓rB_cons, ↓rS_asg, ↓rS_par, ↓rS_ex, ↓rS_ret, ↓rS_retN, ↓rS_iff, ↓rS_for, ↓rS_whl, ↓rS_rse, ↓rS_app, ↓rS_ext, ↓rS_sub, ↓run_pure, ↓run_bind, ↓run_ok, ↓run_exn, ↓run_bad, ↓r_getV, ↓got_some, ↓got_none, ↓got_map, ↓got_ite, ↓kB_bl, ↓gets_fz, ↓gets_un, ↓gets_tu, ↓movs_fz, ↓movs_un, ↓movs_tu, ↓next_next, ↓next_ret, ↓next_brk, ↓next_cnt, ↓ret_ret, ↓ret_exn, ↓ret_bad, ↓run_ite, ↓run_iteo, ↓run_of, ↓fin_ret, ↓fin_next, ↓finX_eq, ↓run_mbad, slot, rds, AV.rd, Own.simple, sv, Prim.run, Prim.ints, fzv, newl, outs, asgP, setAll, tupV, ownT, lstV, itemV, seqOf, lstOf, intOf, p_add, p_sub, p_mul, p_mod, p_fdiv, p_pow, p_neg, p_lt, p_le, p_gt, p_ge, p_isNone, p_notNone, p_idx, p_slLo, p_slHi, p_len, p_tuple, p_list, p_max2, p_min2, p_abs, p_int_, D.flat, passA, backA, takeA, frzA, List.getElem?_cons_zero, List.getElem?_cons_succ, Option.bind_some, Option.bind_none, id_eq, ↓reduceIte, List.map_cons, List.map_nil, List.cons_append, List.nil_append, List.replicate, List.set_cons_zero, List.set_cons_succ, and_true, true_and, and_self, eq_self, List.length_cons, List.length_nil, Nat.reduceAdd, Nat.reduceLeDiff, Nat.reduceLT, Bool.true_eq_false, Bool.false_eq_true, decide_true, decide_false, if_true, if_false, decide_eq_true_eq, Bool.and_eq_true, Bool.or_eq_true, List.all_cons, List.all_nil, Bool.and_true, Bool.and_self, a0, in_2, p_eq, se_add_add, se_add_less, se_add_zero, se_add_if, se_add_while, se_add_beside, se_less_add, se_less_less, se_less_zero, se_less_if, se_less_while, se_less_beside, se_zero_add, se_zero_less, se_zero_zero, se_zero_if, se_zero_while, se_zero_beside, se_if_add, se_if_less, se_if_zero, se_if_if, se_if_while, se_if_beside, se_while_add, se_while_less, se_while_zero, se_while_if, se_while_while, se_while_beside, se_beside_add, se_beside_less, se_beside_zero, se_beside_if, se_beside_while, se_beside_beside, ss_add_less, ss_add_zero, ss_add_if, ss_add_while, ss_add_beside, ss_less_add, ss_less_zero, ss_less_if, ss_less_while, ss_less_beside, ss_zero_add, ss_zero_less, ss_zero_if, ss_zero_while, ss_zero_beside, ss_if_add, ss_if_less, ss_if_zero, ss_if_while, ss_if_beside, ss_while_add, ss_while_less, ss_while_zero, ss_while_if, ss_while_beside, ss_beside_add, ss_beside_less, ss_beside_zero, ss_beside_if, ss_beside_while, beq_self_eq_true, Bool.or_true, Bool.true_or, Bool.or_false, Bool.false_or, Bool.or_self, Option.map_some, big]
  | iff a x y => simp only [Row.enc, Row.inner, fd__law_inner, ↓rE_cst, ↓rE_glb, ↓rE_var, ↓rE_mov, ↓rE_tup, ↓rE_lst, ↓rE_op, ↓rE_ife, ↓rE_and, ↓rE_or, ↓rE_not, ↓rE_chain, ↓rE_call, ↓rE_mth, ↓rE_comp, ↓rE_dsp, ↓rO_var, ↓rO_op, ↓rO_cst, ↓rO_glb, ↓rO_mov, ↓rO_tup, ↓rO_lst, ↓rO_ife, ↓rO_and, ↓rO_or, ↓rO_not, ↓rO_chain, ↓rO_mth, ↓rO_call, ↓rO_comp, ↓rO_dsp, ↓rA_nil, ↓rA_cons, ↓rL_nil, ↓rL_cons, ↓rT_and, ↓rT_or, ↓rT_not, ↓rT_var, ↓rT_op, ↓rT_chain, ↓rT_call, ↓rT_cst, ↓rT_ife, ↓rI_seq, ↓rI_rng1, ↓rI_zip, ↓rB_nil, ↓rB_cons, ↓rS_asg, ↓rS_par, ↓rS_ex, ↓rS_ret, ↓rS_retN, ↓rS_iff, ↓rS_for, ↓rS_whl, ↓rS_rse, ↓rS_app, ↓rS_ext, ↓rS_sub, ↓run_pure, ↓run_bind, ↓run_ok, ↓run_exn, ↓run_bad, ↓r_getV, ↓got_some, ↓got_none, ↓got_map, ↓got_ite, ↓kB_bl, ↓gets_fz, ↓gets_un, ↓gets_tu, ↓movs_fz, ↓movs_un, ↓movs_tu, ↓next_next, ↓next_ret, ↓next_brk, ↓next_cnt, ↓ret_ret, ↓ret_exn, ↓ret_bad, ↓run_ite, ↓run_iteo, ↓run_of, ↓fin_ret, ↓fin_next, ↓finX_eq, ↓run_mbad, slot, rds, AV.rd, Own.simple, sv, Prim.run, Prim.ints, fzv, newl, outs, asgP, setAll, tupV, ownT, lstV, itemV, seqOf, lstOf, intOf, p_add, p_sub, p_mul, p_mod, p_fdiv, p_pow, p_neg, p_lt, p_le, p_gt, p_ge, p_isNone, p_notNone, p_idx, p_slLo, p_slHi, p_len, p_tuple, p_list, p_max2, p_min2, p_abs, p_int_, D.flat, passA, backA, takeA, frzA, List.getElem?_cons_zero, List.getElem?_cons_succ, Option.bind_some, Option.bind_none, id_eq, ↓reduceIte, List.map_cons, List.map_nil, List.cons_append, List.nil_append, List.replicate, List.set_cons_zero, List.set_cons_succ, and_true, true_and, and_self, eq_self, List.length_cons, List.length_nil, Nat.reduceAdd, Nat.reduceLeDiff, Nat.reduceLT, Bool.true_eq_false, Bool.false_eq_true, decide_true, decide_false, if_true, if_false, decide_eq_true_eq, Bool.and_eq_true, Bool.or_eq_true, List.all_cons, List.all_nil, Bool.and_true, Bool.and_self, a0, cut2, in_2, p_eq, se_add_add, se_add_less, se_add_zero, se_add_if, se_add_while, se_add_beside, se_less_add, se_less_less, se_less_zero, se_less_if, se_less_while, se_less_beside, se_zero_add, se_zero_less, se_zero_zero, se_zero_if, se_zero_while, se_zero_beside, se_if_add, se_if_less, se_if_zero, se_if_if, se_if_while, se_if_beside, se_while_add, se_while_less, se_while_zero, se_while_if, se_while_while, se_while_beside, se_beside_add, se_beside_less, se_beside_zero, se_beside_if, se_beside_while, se_beside_beside, ss_add_less, ss_add_zero, ss_add_if, ss_add_while, ss_add_beside, ss_less_add, ss_less_zero, ss_less_if, ss_less_while, ss_less_beside, ss_zero_add, ss_zero_less, ss_zero_if, ss_zero_while, ss_zero_beside, ss_if_add, ss_if_less, ss_if_zero, ss_if_while, ss_if_beside, ss_while_add, ss_while_less, ss_while_zero, ss_while_if, ss_while_beside, ss_beside_add, ss_beside_less, ss_beside_zero, ss_beside_if, ss_beside_while, beq_self_eq_true, Bool.or_true, Bool.true_or, Bool.or_false, Bool.false_or, Bool.or_self, Option.map_some, big, encT]
  | whl a x => simp only [Row.enc, Row.inner, fd__law_inner, ↓rE_cst, ↓rE_glb, ↓rE_var, ↓rE_mov, ↓rE_tup, ↓rE_lst, ↓rE_op, ↓rE_ife, ↓rE_and, ↓rE_or, ↓rE_not, ↓rE_chain, ↓rE_call, ↓rE_mth, ↓rE_comp, ↓rE_dsp, ↓rO_var, ↓rO_op, ↓rO_cst, ↓rO_glb, ↓rO_mov, ↓rO_tup, ↓rO_lst, ↓rO_ife, ↓rO_and, ↓rO_or, ↓rO_not, ↓rO_chain, ↓rO_mth, ↓rO_call, ↓rO_comp, ↓rO_dsp, ↓rA_nil, ↓rA_cons, ↓rL_nil, ↓rL_cons, ↓rT_and, ↓rT_or, ↓rT_not, ↓rT_var, ↓rT_op, ↓rT_chain, ↓rT_call, ↓rT_cst, ↓rT_ife, ↓rI_seq, ↓rI_rng1, ↓rI_zip, ↓rB_nil, ↓rB_cons, ↓rS_asg, ↓rS_par, ↓rS_ex, ↓rS_ret, ↓rS_retN, ↓rS_iff, ↓rS_for, ↓rS_whl, ↓rS_rse, ↓rS_app, ↓rS_ext, ↓rS_sub, ↓run_pure, ↓run_bind, ↓run_ok, ↓run_exn, ↓run_bad, ↓r_getV, ↓got_some, ↓got_none, ↓got_map, ↓got_ite, ↓kB_bl, ↓gets_fz, ↓gets_un, ↓gets_tu, ↓movs_fz, ↓movs_un, ↓movs_tu, ↓next_next, ↓next_ret, ↓next_brk, ↓next_cnt, ↓ret_ret, ↓ret_exn, ↓ret_bad, ↓run_ite, ↓run_iteo, ↓run_of, ↓fin_ret, ↓fin_next, ↓finX_eq, ↓run_mbad, slot, rds, AV.rd, Own.simple, sv, Prim.run, Prim.ints, fzv, newl, outs, asgP, setAll, tupV, ownT, lstV, itemV, seqOf, lstOf, intOf, p_add, p_sub, p_mul, p_mod, p_fdiv, p_pow, p_neg, p_lt, p_le, p_gt, p_ge, p_isNone, p_notNone, p_idx, p_slLo, p_slHi, p_len, p_tuple, p_list, p_max2, p_min2, p_abs, p_int_, D.flat, passA, backA, takeA, frzA, List.getElem?_cons_zero, List.getElem?_cons_succ, Option.bind_some, Option.bind_none, id_eq, ↓reduceIte, List.map_cons, List.map_nil, List.cons_append, List.nil_append, List.replicate, List.set_cons_zero, List.set_cons_succ, and_true, true_and, and_self, eq_self, List.length_cons, List.length_nil, Nat.reduceAdd, Nat.reduceLeDiff, Nat.reduceLT, Bool.true_eq_false, Bool.false_eq_true, decide_true, decide_false, if_true, if_false, decide_eq_true_eq, Bool.and_eq_true, Bool.or_eq_true, List.all_cons, List.all_nil, Bool.and_true, Bool.and_self, a0, cut2, in_2, p_eq, se_add_add, se_add_less, se_add_zero, se_add_if, se_add_while, se_add_beside, se_less_add, se_less_less, se_less_zero, se_less_if, se_less_while, se_less_beside, se_zero_add, se_zero_less, se_zero_zero, se_zero_if, se_zero_while, se_zero_beside, se_if_add, se_if_less, se_if_zero, se_if_if, se_if_while, se_if_beside, se_while_add, se_while_less, se_while_zero, se_while_if, se_while_while, se_while_beside, se_beside_add, se_beside_less, se_beside_zero, se_beside_if, se_beside_while, se_beside_beside, ss_add_less, ss_add_zero, ss_add_if, ss_add_while, ss_add_beside, ss_less_add, ss_less_zero, ss_less_if, ss_less_while, ss_less_beside, ss_zero_add, ss_zero_less, ss_zero_if, ss_zero_while, ss_zero_beside, ss_if_add, ss_if_less, ss_if_zero, ss_if_while, ss_if_beside, ss_while_add, ss_while_less, ss_while_zero, ss_while_if, ss_while_beside, ss_beside_add, ss_beside_less, ss_beside_zero, ss_beside_if, ss_beside_while, beq_self_eq_true, Bool.or_true, Bool.true_or, Bool.or_false, Bool.false_or, Bool.or_self, Option.map_some, big, encT]
  | beside x y => simp only [Row.enc, Row.inner, fd__law_inner, ↓rE_cst, ↓rE_glb, ↓rE_var, ↓rE_mov, ↓rE_tup, ↓rE_lst, ↓rE_op, ↓rE_ife, ↓rE_and, ↓rE_or, ↓rE_not, ↓rE_chain, ↓rE_call, ↓rE_mth, ↓rE_comp, ↓rE_dsp, ↓rO_var, ↓rO_op, ↓rO_cst, ↓rO_glb, ↓rO_mov, ↓rO_tup, ↓rO_lst, ↓rO_ife, ↓rO_and, ↓rO_or, ↓rO_not, ↓rO_chain, ↓rO_mth, ↓rO_call, ↓rO_comp, ↓rO_dsp, ↓rA_nil, ↓rA_cons, ↓rL_nil, ↓rL_cons, ↓rT_and, ↓rT_or, ↓rT_not, ↓rT_var, ↓rT_op, ↓rT_chain, ↓rT_call, ↓rT_cst, ↓rT_ife, ↓rI_seq, ↓rI_rng1, ↓rI_zip, ↓rB_nil, ↓rB_cons, ↓rS_asg, ↓rS_par, ↓rS_ex, ↓rS_ret, ↓rS_retN, ↓rS_iff, ↓rS_for, ↓rS_whl, ↓rS_rse, ↓rS_app, ↓rS_ext, ↓rS_sub, ↓run_pure, ↓run_bind, ↓run_ok, ↓run_exn, ↓run_bad, ↓r_getV, ↓got_some, ↓got_none, ↓got_map, ↓got_ite, ↓kB_bl, ↓gets_fz, ↓gets_un, ↓gets_tu, ↓movs_fz, ↓movs_un, ↓movs_tu, ↓next_next, ↓next_ret, ↓next_brk, ↓next_cnt, ↓ret_ret, ↓ret_exn, ↓ret_bad, ↓run_ite, ↓run_iteo, ↓run_of, ↓fin_ret, ↓fin_next, ↓finX_eq, ↓run_mbad, slot, rds, AV.rd, Own.simple, sv, Prim.run, Prim.ints, fzv, newl, outs, asgP, setAll, tupV, ownT, lstV, itemV, seqOf, lstOf, intOf, p_add, p_sub, p_mul, p_mod, p_fdiv, p_pow, p_neg, p_lt, p_le, p_gt, p_ge, p_isNone, p_notNone, p_idx, p_slLo, p_slHi, p_len, p_tuple, p_list, p_max2, p_min2, p_abs, p_int_, D.flat, passA, backA, takeA, frzA, List.getElem?_cons_zero, List.getElem?_cons_succ, Option.bind_some, Option.bind_none, id_eq, ↓reduceIte, List.map_cons, List.map_nil, List.cons_append, List.nil_append, List.replicate, List.set_cons_zero, List.set_cons_succ, and_true, true_and, and_self, eq_self, List.length_cons, List.length_nil, Nat.reduceAdd, Nat.reduceLeDiff, Nat.reduceLT, Bool.true_eq_false, Bool.false_eq_true, decide_true, decide_false, if_true, if_false, decide_eq_true_eq, Bool.and_eq_true, Bool.or_eq_true, List.all_cons, List.all_nil, Bool.and_true, Bool.and_self, a0, cut1, in_2, p_eq, se_add_add, se_add_less, se_add_zero, se_add_if, se_add_while, se_add_beside, se_less_add, se_less_less, se_less_zero, se_less_if, se_less_while, se_less_beside, se_zero_add, se_zero_less, se_zero_zero, se_zero_if, se_zero_while, se_zero_beside, se_if_add, se_if_less, se_if_zero, se_if_if, se_if_while, se_if_beside, se_while_add, se_while_less, se_while_zero, se_while_if, se_while_while, se_while_beside, se_beside_add, se_beside_less, se_beside_zero, se_beside_if, se_beside_while, se_beside_beside, ss_add_less, ss_add_zero, ss_add_if, ss_add_while, ss_add_beside, ss_less_add, ss_less_zero, ss_less_if, ss_less_while, ss_less_beside, ss_zero_add, ss_zero_less, ss_zero_if, ss_zero_while, ss_zero_beside, ss_if_add, ss_if_less, ss_if_zero, ss_if_while, ss_if_beside, ss_while_add, ss_while_less, ss_while_zero, ss_while_if, ss_while_beside, ss_beside_add, ss_beside_less, ss_beside_zero, ss_beside_if, ss_beside_while, beq_self_eq_true, Bool.or_true, Bool.true_or, Bool.or_false, Bool.false_or, Bool.or_self, Option.map_some, big, encT]
mutual
def Row.dep : Row → Nat
  | .sum _ _ _ _ => 0
  | .zero _ => 0
  | .iff _ x y => 1 + max x.dep y.dep
  | .whl _ x => 1 + x.dep
  | .beside x y => 1 + max x.dep y.dep
def Rows.dep : Rows → Nat
  | .nil => 0
  | .cons r rs => max r.dep rs.dep
end
theorem ints_ints? : ∀ ms : List Int, D.ints? (intsD ms) = some ms
  | [] => rfl
  | m :: ms => by
    show D.ints? (.int m :: intsD ms) = _
    rw [D.ints?, ints_ints? ms]; rfl
theorem inner_dep {r : Row} {x : Rows} (h : x ∈ r.inner) : x.dep + 1 ≤ r.dep := by
  cases r with
  | sum _ _ _ _ => exact (List.not_mem_nil h).elim
  | zero _ => exact (List.not_mem_nil h).elim
  | iff a y z =>
    rw [Row.inner] at h
    rw [Row.dep]
    simp only [List.mem_cons, List.not_mem_nil, or_false] at h
    rcases h with rfl | rfl <;> omega
  | whl a y =>
    rw [Row.inner] at h
    rw [Row.dep]
    simp only [List.mem_cons, List.not_mem_nil, or_false] at h
    rcases h with rfl; omega
  | beside y z =>
    rw [Row.inner] at h
    rw [Row.dep]
    simp only [List.mem_cons, List.not_mem_nil, or_false] at h
    rcases h with rfl | rfl <;> omega
theorem inner_cnt (r : Row) : (r.inner.map fun x => (x.cnt : Int)).sum + 1 = r.cnt := by
  cases r <;> simp [Row.inner, Row.cnt] <;> omega
end Py

set_option Elab.async false
set_option linter.all false
set_option maxRecDepth 100000
set_option maxHeartbeats 4000000
namespace Py
open PySem
structure HasCnt (P : Prg) : Prop where
  inner : P.fn "_law_inner" = some fd__law_inner
  count : P.fn "_law_count" = some fd__law_count
theorem law_count_step {P : Prg} (h : HasCnt P) (N : Nat) (rs : Rows) (ih : ∀ x : Rows, x.dep + 1 ≤ rs.dep → callF P (N + 1) "_law_count" [(.tup x.encs, .fz)] = .ret (.int x.cnt, .fz) []) : callF P (N + 2) "_law_count" [(.tup rs.encs, .fz)] = .ret (.int rs.cnt, .fz) [] := by
  refine Ret.eq (call_run h.count rfl ?_)
  simp only [fd__law_count, ↓rE_cst, ↓rE_glb, ↓rE_var, ↓rE_mov, ↓rE_tup, ↓rE_lst, ↓rE_op, ↓rE_ife, ↓rE_and, ↓rE_or, ↓rE_not, ↓rE_chain, ↓rE_call, ↓rE_mth, ↓rE_comp, ↓rE_dsp, ↓rO_var, ↓rO_op, ↓rO_cst, ↓rO_glb, ↓rO_mov, ↓rO_tup, ↓rO_lst, ↓rO_ife, ↓rO_and, ↓rO_or, ↓rO_not, ↓rO_chain, ↓rO_mth, ↓rO_call, ↓rO_comp, ↓rO_dsp, ↓rA_nil, ↓rA_cons, ↓rL_nil, ↓rL_cons, ↓rT_and, ↓rT_or, ↓rT_not, ↓rT_var, ↓rT_op, ↓rT_chain, ↓rT_call, ↓rT_cst, ↓rT_ife, ↓rI_seq, ↓rI_rng1, ↓rI_zip, ↓rB_nil, ↓rB_cons, ↓rS_asg, ↓rS_par, ↓rS_ex, ↓rS_ret, ↓rS_retN, ↓rS_iff, ↓rS_for, ↓rS_whl, ↓rS_rse, ↓rS_app, ↓rS_ext, ↓rS_sub, ↓run_pure, ↓run_bind, ↓run_ok, ↓run_exn, ↓run_bad, ↓r_getV, ↓got_some, ↓got_none, ↓got_map, ↓got_ite, ↓kB_bl, ↓gets_fz, ↓gets_un, ↓gets_tu, ↓movs_fz, ↓movs_un, ↓movs_tu, ↓next_next, ↓next_ret, ↓next_brk, ↓next_cnt, ↓ret_ret, ↓ret_exn, ↓ret_bad, ↓run_ite, ↓run_iteo, ↓run_of, ↓fin_ret, ↓fin_next, ↓finX_eq, ↓run_mbad, slot, rds, AV.rd, Own.simple, sv, Prim.run, Prim.ints, fzv, newl, outs, asgP, setAll, tupV, ownT, lstV, itemV, seqOf, lstOf, intOf, p_add, p_sub, p_mul, p_mod, p_fdiv, p_pow, p_neg, p_lt, p_le, p_gt, p_ge, p_isNone, p_notNone, p_idx, p_slLo, p_slHi, p_len, p_tuple, p_list, p_max2, p_min2, p_abs, p_int_, D.flat, passA, backA, takeA, frzA, List.getElem?_cons_zero, List.getElem?_cons_succ, Option.bind_some, Option.bind_none, id_eq, ↓reduceIte, List.map_cons, List.map_nil, List.cons_append, List.nil_append, List.replicate, List.set_cons_zero, List.set_cons_succ, and_true, true_and, and_self, eq_self, List.length_cons, List.length_nil, Nat.reduceAdd, Nat.reduceLeDiff, Nat.reduceLT, Bool.true_eq_false, Bool.false_eq_true, decide_true, decide_false, if_true, if_false, decide_eq_true_eq, Bool.and_eq_true, Bool.or_eq_true, List.all_cons, List.all_nil, Bool.and_true, Bool.and_self]
  refine run_comp (fun r acc τ => τ = [some (.tup rs.encs, .fz), none, none] ∧ ∃ (rr : Rows) (ms : List Int), r = rr.encs ∧ rr.dep ≤ rs.dep ∧ acc = intsD ms ∧ ms.sum + rr.cnt = rs.cnt) ?_ ?_ ?_
  · simp only [wipeF, clr, ↓rE_cst, ↓rE_glb, ↓rE_var, ↓rE_mov, ↓rE_tup, ↓rE_lst, ↓rE_op, ↓rE_ife, ↓rE_and, ↓rE_or, ↓rE_not, ↓rE_chain, ↓rE_call, ↓rE_mth, ↓rE_comp, ↓rE_dsp, ↓rO_var, ↓rO_op, ↓rO_cst, ↓rO_glb, ↓rO_mov, ↓rO_tup, ↓rO_lst, ↓rO_ife, ↓rO_and, ↓rO_or, ↓rO_not, ↓rO_chain, ↓rO_mth, ↓rO_call, ↓rO_comp, ↓rO_dsp, ↓rA_nil, ↓rA_cons, ↓rL_nil, ↓rL_cons, ↓rT_and, ↓rT_or, ↓rT_not, ↓rT_var, ↓rT_op, ↓rT_chain, ↓rT_call, ↓rT_cst, ↓rT_ife, ↓rI_seq, ↓rI_rng1, ↓rI_zip, ↓rB_nil, ↓rB_cons, ↓rS_asg, ↓rS_par, ↓rS_ex, ↓rS_ret, ↓rS_retN, ↓rS_iff, ↓rS_for, ↓rS_whl, ↓rS_rse, ↓rS_app, ↓rS_ext, ↓rS_sub, ↓run_pure, ↓run_bind, ↓run_ok, ↓run_exn, ↓run_bad, ↓r_getV, ↓got_some, ↓got_none, ↓got_map, ↓got_ite, ↓kB_bl, ↓gets_fz, ↓gets_un, ↓gets_tu, ↓movs_fz, ↓movs_un, ↓movs_tu, ↓next_next, ↓next_ret, ↓next_brk, ↓next_cnt, ↓ret_ret, ↓ret_exn, ↓ret_bad, ↓run_ite, ↓run_iteo, ↓run_of, ↓fin_ret, ↓fin_next, ↓finX_eq, ↓run_mbad, slot, rds, AV.rd, Own.simple, sv, Prim.run, Prim.ints, fzv, newl, outs, asgP, setAll, tupV, ownT, lstV, itemV, seqOf, lstOf, intOf, p_add, p_sub, p_mul, p_mod, p_fdiv, p_pow, p_neg, p_lt, p_le, p_gt, p_ge, p_isNone, p_notNone, p_idx, p_slLo, p_slHi, p_len, p_tuple, p_list, p_max2, p_min2, p_abs, p_int_, D.flat, passA, backA, takeA, frzA, List.getElem?_cons_zero, List.getElem?_cons_succ, Option.bind_some, Option.bind_none, id_eq, ↓reduceIte, List.map_cons, List.map_nil, List.cons_append, List.nil_append, List.replicate, List.set_cons_zero, List.set_cons_succ, and_true, true_and, and_self, eq_self, List.length_cons, List.length_nil, Nat.reduceAdd, Nat.reduceLeDiff, Nat.reduceLT, Bool.true_eq_false, Bool.false_eq_true, decide_true, decide_false, if_true, if_false, decide_eq_true_eq, Bool.and_eq_true, Bool.or_eq_true, List.all_cons, List.all_nil, Bool.and_true, Bool.and_self]
    exact ⟨rs, [], rfl, Nat.le_refl _, rfl, by simp⟩
  · rintro x r acc τ ⟨rfl, rr, ms, hr, hd, rfl, hs⟩
    cases rr with
    | nil => rw [Rows.encs] at hr; cases hr
    | cons row rr =>
      rw [Rows.encs] at hr
      cases hr
      rw [Rows.dep] at hd
      have ei := law_inner h.inner N row
      simp only [↓rE_cst, ↓rE_glb, ↓rE_var, ↓rE_mov, ↓rE_tup, ↓rE_lst, ↓rE_op, ↓rE_ife, ↓rE_and, ↓rE_or, ↓rE_not, ↓rE_chain, ↓rE_call, ↓rE_mth, ↓rE_comp, ↓rE_dsp, ↓rO_var, ↓rO_op, ↓rO_cst, ↓rO_glb, ↓rO_mov, ↓rO_tup, ↓rO_lst, ↓rO_ife, ↓rO_and, ↓rO_or, ↓rO_not, ↓rO_chain, ↓rO_mth, ↓rO_call, ↓rO_comp, ↓rO_dsp, ↓rA_nil, ↓rA_cons, ↓rL_nil, ↓rL_cons, ↓rT_and, ↓rT_or, ↓rT_not, ↓rT_var, ↓rT_op, ↓rT_chain, ↓rT_call, ↓rT_cst, ↓rT_ife, ↓rI_seq, ↓rI_rng1, ↓rI_zip, ↓rB_nil, ↓rB_cons, ↓rS_asg, ↓rS_par, ↓rS_ex, ↓rS_ret, ↓rS_retN, ↓rS_iff, ↓rS_for, ↓rS_whl, ↓rS_rse, ↓rS_app, ↓rS_ext, ↓rS_sub, ↓run_pure, ↓run_bind, ↓run_ok, ↓run_exn, ↓run_bad, ↓r_getV, ↓got_some, ↓got_none, ↓got_map, ↓got_ite, ↓kB_bl, ↓gets_fz, ↓gets_un, ↓gets_tu, ↓movs_fz, ↓movs_un, ↓movs_tu, ↓next_next, ↓next_ret, ↓next_brk, ↓next_cnt, ↓ret_ret, ↓ret_exn, ↓ret_bad, ↓run_ite, ↓run_iteo, ↓run_of, ↓fin_ret, ↓fin_next, ↓finX_eq, ↓run_mbad, slot, rds, AV.rd, Own.simple, sv, Prim.run, Prim.ints, fzv, newl, outs, asgP, setAll, tupV, ownT, lstV, itemV, seqOf, lstOf, intOf, p_add, p_sub, p_mul, p_mod, p_fdiv, p_pow, p_neg, p_lt, p_le, p_gt, p_ge, p_isNone, p_notNone, p_idx, p_slLo, p_slHi, p_len, p_tuple, p_list, p_max2, p_min2, p_abs, p_int_, D.flat, passA, backA, takeA, frzA, List.getElem?_cons_zero, List.getElem?_cons_succ, Option.bind_some, Option.bind_none, id_eq, ↓reduceIte, List.map_cons, List.map_nil, List.cons_append, List.nil_append, List.replicate, List.set_cons_zero, List.set_cons_succ, and_true, true_and, and_self, eq_self, List.length_cons, List.length_nil, Nat.reduceAdd, Nat.reduceLeDiff, Nat.reduceLT, Bool.true_eq_false, Bool.false_eq_true, decide_true, decide_false, if_true, if_false, decide_eq_true_eq, Bool.and_eq_true, Bool.or_eq_true, List.all_cons, List.all_nil, Bool.and_true, Bool.and_self, evC, ↓run_callG h.inner, ↓io__law_inner, ei]
      refine run_comp (fun r acc τ => τ = [some (.tup rs.encs, .fz), some (row.enc, .fz), none] ∧ ∃ (l : List Rows) (ks : List Int), r = l.map encT ∧ (∀ x ∈ l, x.dep + 1 ≤ rs.dep) ∧ acc = intsD ks ∧ ks.sum + (l.map fun x => (x.cnt : Int)).sum + 1 = row.cnt) ?_ ?_ ?_
      · simp only [wipeF, clr, ↓rE_cst, ↓rE_glb, ↓rE_var, ↓rE_mov, ↓rE_tup, ↓rE_lst, ↓rE_op, ↓rE_ife, ↓rE_and, ↓rE_or, ↓rE_not, ↓rE_chain, ↓rE_call, ↓rE_mth, ↓rE_comp, ↓rE_dsp, ↓rO_var, ↓rO_op, ↓rO_cst, ↓rO_glb, ↓rO_mov, ↓rO_tup, ↓rO_lst, ↓rO_ife, ↓rO_and, ↓rO_or, ↓rO_not, ↓rO_chain, ↓rO_mth, ↓rO_call, ↓rO_comp, ↓rO_dsp, ↓rA_nil, ↓rA_cons, ↓rL_nil, ↓rL_cons, ↓rT_and, ↓rT_or, ↓rT_not, ↓rT_var, ↓rT_op, ↓rT_chain, ↓rT_call, ↓rT_cst, ↓rT_ife, ↓rI_seq, ↓rI_rng1, ↓rI_zip, ↓rB_nil, ↓rB_cons, ↓rS_asg, ↓rS_par, ↓rS_ex, ↓rS_ret, ↓rS_retN, ↓rS_iff, ↓rS_for, ↓rS_whl, ↓rS_rse, ↓rS_app, ↓rS_ext, ↓rS_sub, ↓run_pure, ↓run_bind, ↓run_ok, ↓run_exn, ↓run_bad, ↓r_getV, ↓got_some, ↓got_none, ↓got_map, ↓got_ite, ↓kB_bl, ↓gets_fz, ↓gets_un, ↓gets_tu, ↓movs_fz, ↓movs_un, ↓movs_tu, ↓next_next, ↓next_ret, ↓next_brk, ↓next_cnt, ↓ret_ret, ↓ret_exn, ↓ret_bad, ↓run_ite, ↓run_iteo, ↓run_of, ↓fin_ret, ↓fin_next, ↓finX_eq, ↓run_mbad, slot, rds, AV.rd, Own.simple, sv, Prim.run, Prim.ints, fzv, newl, outs, asgP, setAll, tupV, ownT, lstV, itemV, seqOf, lstOf, intOf, p_add, p_sub, p_mul, p_mod, p_fdiv, p_pow, p_neg, p_lt, p_le, p_gt, p_ge, p_isNone, p_notNone, p_idx, p_slLo, p_slHi, p_len, p_tuple, p_list, p_max2, p_min2, p_abs, p_int_, D.flat, passA, backA, takeA, frzA, List.getElem?_cons_zero, List.getElem?_cons_succ, Option.bind_some, Option.bind_none, id_eq, ↓reduceIte, List.map_cons, List.map_nil, List.cons_append, List.nil_append, List.replicate, List.set_cons_zero, List.set_cons_succ, and_true, true_and, and_self, eq_self, List.length_cons, List.length_nil, Nat.reduceAdd, Nat.reduceLeDiff, Nat.reduceLT, Bool.true_eq_false, Bool.false_eq_true, decide_true, decide_false, if_true, if_false, decide_eq_true_eq, Bool.and_eq_true, Bool.or_eq_true, List.all_cons, List.all_nil, Bool.and_true, Bool.and_self]
        exact ⟨row.inner, [], rfl, fun x hx => by have := inner_dep hx; omega, rfl, by have := inner_cnt row; simpa using this⟩
      · rintro x r acc τ ⟨rfl, l, ks, hr, hx, rfl, hk⟩
        cases l with
        | nil => cases hr
        | cons y l =>
          cases hr
          have ey := ih y (hx y List.mem_cons_self)
          simp only [encT, ↓rE_cst, ↓rE_glb, ↓rE_var, ↓rE_mov, ↓rE_tup, ↓rE_lst, ↓rE_op, ↓rE_ife, ↓rE_and, ↓rE_or, ↓rE_not, ↓rE_chain, ↓rE_call, ↓rE_mth, ↓rE_comp, ↓rE_dsp, ↓rO_var, ↓rO_op, ↓rO_cst, ↓rO_glb, ↓rO_mov, ↓rO_tup, ↓rO_lst, ↓rO_ife, ↓rO_and, ↓rO_or, ↓rO_not, ↓rO_chain, ↓rO_mth, ↓rO_call, ↓rO_comp, ↓rO_dsp, ↓rA_nil, ↓rA_cons, ↓rL_nil, ↓rL_cons, ↓rT_and, ↓rT_or, ↓rT_not, ↓rT_var, ↓rT_op, ↓rT_chain, ↓rT_call, ↓rT_cst, ↓rT_ife, ↓rI_seq, ↓rI_rng1, ↓rI_zip, ↓rB_nil, ↓rB_cons, ↓rS_asg, ↓rS_par, ↓rS_ex, ↓rS_ret, ↓rS_retN, ↓rS_iff, ↓rS_for, ↓rS_whl, ↓rS_rse, ↓rS_app, ↓rS_ext, ↓rS_sub, ↓run_pure, ↓run_bind, ↓run_ok, ↓run_exn, ↓run_bad, ↓r_getV, ↓got_some, ↓got_none, ↓got_map, ↓got_ite, ↓kB_bl, ↓gets_fz, ↓gets_un, ↓gets_tu, ↓movs_fz, ↓movs_un, ↓movs_tu, ↓next_next, ↓next_ret, ↓next_brk, ↓next_cnt, ↓ret_ret, ↓ret_exn, ↓ret_bad, ↓run_ite, ↓run_iteo, ↓run_of, ↓fin_ret, ↓fin_next, ↓finX_eq, ↓run_mbad, slot, rds, AV.rd, Own.simple, sv, Prim.run, Prim.ints, fzv, newl, outs, asgP, setAll, tupV, ownT, lstV, itemV, seqOf, lstOf, intOf, p_add, p_sub, p_mul, p_mod, p_fdiv, p_pow, p_neg, p_lt, p_le, p_gt, p_ge, p_isNone, p_notNone, p_idx, p_slLo, p_slHi, p_len, p_tuple, p_list, p_max2, p_min2, p_abs, p_int_, D.flat, passA, backA, takeA, frzA, List.getElem?_cons_zero, List.getElem?_cons_succ, Option.bind_some, Option.bind_none, id_eq, ↓reduceIte, List.map_cons, List.map_nil, List.cons_append, List.nil_append, List.replicate, List.set_cons_zero, List.set_cons_succ, and_true, true_and, and_self, eq_self, List.length_cons, List.length_nil, Nat.reduceAdd, Nat.reduceLeDiff, Nat.reduceLT, Bool.true_eq_false, Bool.false_eq_true, decide_true, decide_false, if_true, if_false, decide_eq_true_eq, Bool.and_eq_true, Bool.or_eq_true, List.all_cons, List.all_nil, Bool.and_true, Bool.and_self, evC, ↓run_callG h.count, ↓io__law_count, ey, clr]
          refine ⟨l, ks ++ [(y.cnt : Int)], rfl, fun x h => hx x (List.mem_cons_of_mem _ h), by unfold intsD; rw [List.map_append]; rfl, ?_⟩
          rw [List.sum_append, List.sum_singleton]
          rw [List.map_cons, List.sum_cons] at hk
          omega
      · rintro xs τ ⟨rfl, l, ks, hr, hx, rfl, hk⟩
        have el : l = [] := by
          cases l with
          | nil => rfl
          | cons _ _ => cases hr
        subst el
        simp only [putBack, ↓rE_cst, ↓rE_glb, ↓rE_var, ↓rE_mov, ↓rE_tup, ↓rE_lst, ↓rE_op, ↓rE_ife, ↓rE_and, ↓rE_or, ↓rE_not, ↓rE_chain, ↓rE_call, ↓rE_mth, ↓rE_comp, ↓rE_dsp, ↓rO_var, ↓rO_op, ↓rO_cst, ↓rO_glb, ↓rO_mov, ↓rO_tup, ↓rO_lst, ↓rO_ife, ↓rO_and, ↓rO_or, ↓rO_not, ↓rO_chain, ↓rO_mth, ↓rO_call, ↓rO_comp, ↓rO_dsp, ↓rA_nil, ↓rA_cons, ↓rL_nil, ↓rL_cons, ↓rT_and, ↓rT_or, ↓rT_not, ↓rT_var, ↓rT_op, ↓rT_chain, ↓rT_call, ↓rT_cst, ↓rT_ife, ↓rI_seq, ↓rI_rng1, ↓rI_zip, ↓rB_nil, ↓rB_cons, ↓rS_asg, ↓rS_par, ↓rS_ex, ↓rS_ret, ↓rS_retN, ↓rS_iff, ↓rS_for, ↓rS_whl, ↓rS_rse, ↓rS_app, ↓rS_ext, ↓rS_sub, ↓run_pure, ↓run_bind, ↓run_ok, ↓run_exn, ↓run_bad, ↓r_getV, ↓got_some, ↓got_none, ↓got_map, ↓got_ite, ↓kB_bl, ↓gets_fz, ↓gets_un, ↓gets_tu, ↓movs_fz, ↓movs_un, ↓movs_tu, ↓next_next, ↓next_ret, ↓next_brk, ↓next_cnt, ↓ret_ret, ↓ret_exn, ↓ret_bad, ↓run_ite, ↓run_iteo, ↓run_of, ↓fin_ret, ↓fin_next, ↓finX_eq, ↓run_mbad, slot, rds, AV.rd, Own.simple, sv, Prim.run, Prim.ints, fzv, newl, outs, asgP, setAll, tupV, ownT, lstV, itemV, seqOf, lstOf, intOf, p_add, p_sub, p_mul, p_mod, p_fdiv, p_pow, p_neg, p_lt, p_le, p_gt, p_ge, p_isNone, p_notNone, p_idx, p_slLo, p_slHi, p_len, p_tuple, p_list, p_max2, p_min2, p_abs, p_int_, D.flat, passA, backA, takeA, frzA, List.getElem?_cons_zero, List.getElem?_cons_succ, Option.bind_some, Option.bind_none, id_eq, ↓reduceIte, List.map_cons, List.map_nil, List.cons_append, List.nil_append, List.replicate, List.set_cons_zero, List.set_cons_succ, and_true, true_and, and_self, eq_self, List.length_cons, List.length_nil, Nat.reduceAdd, Nat.reduceLeDiff, Nat.reduceLT, Bool.true_eq_false, Bool.false_eq_true, decide_true, decide_false, if_true, if_false, decide_eq_true_eq, Bool.and_eq_true, Bool.or_eq_true, List.all_cons, List.all_nil, Bool.and_true, Bool.and_self, p_sum, ints_ints?, Option.map_some, clr]
        refine ⟨rr, ms ++ [1 + ks.sum], rfl, by omega, by unfold intsD; rw [List.map_append]; rfl, ?_⟩
        rw [List.sum_append, List.sum_singleton]
        rw [Rows.cnt] at hs
        simp only [List.map_nil, List.sum_nil] at hk
        omega
  · rintro xs τ ⟨rfl, rr, ms, hr, hd, rfl, hs⟩
    cases rr with
    | cons row rr => rw [Rows.encs] at hr; cases hr
    | nil =>
      simp only [putBack, ↓rE_cst, ↓rE_glb, ↓rE_var, ↓rE_mov, ↓rE_tup, ↓rE_lst, ↓rE_op, ↓rE_ife, ↓rE_and, ↓rE_or, ↓rE_not, ↓rE_chain, ↓rE_call, ↓rE_mth, ↓rE_comp, ↓rE_dsp, ↓rO_var, ↓rO_op, ↓rO_cst, ↓rO_glb, ↓rO_mov, ↓rO_tup, ↓rO_lst, ↓rO_ife, ↓rO_and, ↓rO_or, ↓rO_not, ↓rO_chain, ↓rO_mth, ↓rO_call, ↓rO_comp, ↓rO_dsp, ↓rA_nil, ↓rA_cons, ↓rL_nil, ↓rL_cons, ↓rT_and, ↓rT_or, ↓rT_not, ↓rT_var, ↓rT_op, ↓rT_chain, ↓rT_call, ↓rT_cst, ↓rT_ife, ↓rI_seq, ↓rI_rng1, ↓rI_zip, ↓rB_nil, ↓rB_cons, ↓rS_asg, ↓rS_par, ↓rS_ex, ↓rS_ret, ↓rS_retN, ↓rS_iff, ↓rS_for, ↓rS_whl, ↓rS_rse, ↓rS_app, ↓rS_ext, ↓rS_sub, ↓run_pure, ↓run_bind, ↓run_ok, ↓run_exn, ↓run_bad, ↓r_getV, ↓got_some, ↓got_none, ↓got_map, ↓got_ite, ↓kB_bl, ↓gets_fz, ↓gets_un, ↓gets_tu, ↓movs_fz, ↓movs_un, ↓movs_tu, ↓next_next, ↓next_ret, ↓next_brk, ↓next_cnt, ↓ret_ret, ↓ret_exn, ↓ret_bad, ↓run_ite, ↓run_iteo, ↓run_of, ↓fin_ret, ↓fin_next, ↓finX_eq, ↓run_mbad, slot, rds, AV.rd, Own.simple, sv, Prim.run, Prim.ints, fzv, newl, outs, asgP, setAll, tupV, ownT, lstV, itemV, seqOf, lstOf, intOf, p_add, p_sub, p_mul, p_mod, p_fdiv, p_pow, p_neg, p_lt, p_le, p_gt, p_ge, p_isNone, p_notNone, p_idx, p_slLo, p_slHi, p_len, p_tuple, p_list, p_max2, p_min2, p_abs, p_int_, D.flat, passA, backA, takeA, frzA, List.getElem?_cons_zero, List.getElem?_cons_succ, Option.bind_some, Option.bind_none, id_eq, ↓reduceIte, List.map_cons, List.map_nil, List.cons_append, List.nil_append, List.replicate, List.set_cons_zero, List.set_cons_succ, and_true, true_and, and_self, eq_self, List.length_cons, List.length_nil, Nat.reduceAdd, Nat.reduceLeDiff, Nat.reduceLT, Bool.true_eq_false, Bool.false_eq_true, decide_true, decide_false, if_true, if_false, decide_eq_true_eq, Bool.and_eq_true, Bool.or_eq_true, List.all_cons, List.all_nil, Bool.and_true, Bool.and_self, p_sum, ints_ints?, Option.map_some]
      rw [Rows.cnt] at hs
      simp at hs
      rw [hs]
theorem law_count {P : Prg} (h : HasCnt P) : ∀ (D0 N : Nat) (rs : Rows), rs.dep ≤ D0 → D0 + 2 ≤ N → callF P N "_law_count" [(.tup rs.encs, .fz)] = .ret (.int rs.cnt, .fz) []
  | 0, N, rs, hd, hN => by
    obtain ⟨N, rfl⟩ : ∃ M, N = M + 2 := ⟨N - 2, by omega⟩
    exact law_count_step h N rs fun x hx => absurd hx (by omega)
  | D0 + 1, N, rs, hd, hN => by
    obtain ⟨N, rfl⟩ : ∃ M, N = M + 2 := ⟨N - 2, by omega⟩
    exact law_count_step h N rs fun x hx => law_count h D0 (N + 1) x (by omega) (by omega)
end Py

set_option Elab.async false
set_option linter.all false
set_option maxRecDepth 100000
set_option maxHeartbeats 4000000
namespace Py
open PySem
mutual
theorem Row.dep_gen {ks : List Str} : ∀ (r : Row) (us : List Int) (d : Nat), r.gen ks us d → r.dep + 1 ≤ d ∨ r.dep = 0
  | .sum _ _ _ _, us, d, h => .inr (by rw [Row.dep])
  | .zero _, us, d, h => .inr (by rw [Row.dep])
  | .iff a x y, us, d, h => by
    rw [Row.gen] at h
    have h1 := Rows.dep_gen x us (d - 1) h.2.2.2.1
    have h2 := Rows.dep_gen y us (d - 1) h.2.2.2.2
    have := h.1
    rw [Row.dep]
    omega
  | .whl a x, us, d, h => by
    rw [Row.gen] at h
    have h1 := Rows.dep_gen x us (d - 1) h.2.2.2
    have := h.1
    rw [Row.dep]
    omega
  | .beside x y, us, d, h => by
    rw [Row.gen] at h
    obtain ⟨h0, _, u1, u2, _, ⟨p, q, _⟩ | ⟨p, q, _⟩⟩ := h
    · have h1 := Rows.dep_gen x u1 (d - 1) p
      have h2 := Rows.dep_gen y u2 (d - 1) q
      rw [Row.dep]
      omega
    · have h1 := Rows.dep_gen x u2 (d - 1) p
      have h2 := Rows.dep_gen y u1 (d - 1) q
      rw [Row.dep]
      omega
theorem Rows.dep_gen {ks : List Str} : ∀ (r : Rows) (us : List Int) (d : Nat), r.gen ks us d → r.dep + 1 ≤ d ∨ r.dep = 0
  | .nil, us, d, h => .inr (by rw [Rows.dep])
  | .cons r rs, us, d, h => by
    rw [Rows.gen] at h
    have h1 := Row.dep_gen r us d h.1
    have h2 := Rows.dep_gen rs us d h.2
    rw [Rows.dep]
    omega
end
def unitSets : List (List Int) := [[0, 1, 2, 3, 4, 5], [0, 1, 2, 3], [5, 2, 0], [1, 4]]
structure HasReck (P : Prg) : Prop extends HasRow P, HasCnt P where
  reck : P.fn "_law_reckoning" = some fd__law_reckoning
theorem law_reckoning {P : Prg} (h : HasReck P) (hf : 20 ≤ P.fuel) (N : Nat) (hN : 12 ≤ N) (ns : List Int) (ts : List D) (most : Nat) (hm : most ≤ 8) (ks : List Str) (hk : Kinds ks) (ht : ts.length ≤ 10000) :
    Ret (callF P N "_law_reckoning" [(.scr ns, .fz), town ts, (.int most, .fz), (.tup (strsD ks), .fz)]) (fun v io => ∃ (rs : Rows) (us : List Int) (k : Nat), us ∈ unitSets ∧ rs.gen ks us 3 ∧ rs.cnt ≤ 12 ∧ k ≤ 10000 ∧ v = (.tup rs.encs, .fz) ∧ io = [town (ts ++ zs k)]) fun _ _ => False := by
  obtain ⟨N, rfl⟩ : ∃ M, N = M + 12 := ⟨N - 12, by omega⟩
  refine call_run h.reck rfl ?_
  obtain ⟨j, x, g, e1⟩ := law_pick h.toHasDraw (N + 7) ns ts (ds := [.tup (intsD [0, 1, 2, 3, 4, 5]), .tup (intsD [0, 1, 2, 3]), .tup (intsD [5, 2, 0]), .tup (intsD [1, 4])]) Sq.lst (by decide) (by omega)
  obtain ⟨us, rfl, hus⟩ : ∃ us, x = .tup (intsD us) ∧ us ∈ unitSets := by
    match j, g with
    | 0, g => cases g; exact ⟨_, rfl, by decide⟩
    | 1, g => cases g; exact ⟨_, rfl, by decide⟩
    | 2, g => cases g; exact ⟨_, rfl, by decide⟩
    | 3, g => cases g; exact ⟨_, rfl, by decide⟩
    | j + 4, g => simp at g
  have ha : Ask us ks := by
    unfold unitSets at hus
    simp only [List.mem_cons, List.not_mem_nil, or_false] at hus
    rcases hus with rfl | rfl | rfl | rfl <;> exact ⟨by decide, by decide, hk⟩
  have e2 := law_draw h.toHasDraw (N + 8) ns (ts ++ [.int 0]) ((most : Int) + 1) (by omega) (by rw [List.length_append, List.length_singleton]; omega)
  obtain ⟨g0, g1⟩ := drawn_lt ns (ts ++ [.int 0]) (many := (most : Int) + 1) (by omega)
  generalize drawn ns (ts ++ [.int 0]) ((most : Int) + 1) = dm at e2 g0 g1
  obtain ⟨dw, rfl, dw2⟩ : ∃ dw : Nat, dm = (dw : Int) ∧ dw ≤ most := ⟨dm.toNat, by omega, by omega⟩
  rw [← zs_one] at e1 e2
  rw [zs_app] at e2
  have hB : Bd 3 = 372 := rfl
  have q1 : dw * Bd 3 ≤ 8 * Bd 3 := Nat.mul_le_mul_right _ (by omega)
  obtain ⟨rs, k, l1, b1, c1, e3⟩ := (row_all h.toHasRow 3 (by decide)).2 (N + 11) ns (ts ++ zs 2) us ks dw (by omega) ha (by omega) (by rw [town_len]; omega)
  rw [zs_app] at e3
  unfold town at e1 e2 e3 ⊢
  simp only [intsD, List.map_cons, List.map_nil] at e1
  unfold intsD at e3
  have e3' : callF P (N + 11) "_law_rows" [(.scr ns, .fz), (.lst (ts ++ zs 2), .un .fz), (.tup (List.map D.int us), .fz), (.int 3, .fz), (.int dw, .fz), (.tup (strsD ks), .fz)] = .ret (.tup rs.encs, .fz) [(.lst (ts ++ zs (2 + k)), .un .fz)] := e3
  simp only [fd__law_reckoning, ↓rE_cst, ↓rE_glb, ↓rE_var, ↓rE_mov, ↓rE_tup, ↓rE_lst, ↓rE_op, ↓rE_ife, ↓rE_and, ↓rE_or, ↓rE_not, ↓rE_chain, ↓rE_call, ↓rE_mth, ↓rE_comp, ↓rE_dsp, ↓rO_var, ↓rO_op, ↓rO_cst, ↓rO_glb, ↓rO_mov, ↓rO_tup, ↓rO_lst, ↓rO_ife, ↓rO_and, ↓rO_or, ↓rO_not, ↓rO_chain, ↓rO_mth, ↓rO_call, ↓rO_comp, ↓rO_dsp, ↓rA_nil, ↓rA_cons, ↓rL_nil, ↓rL_cons, ↓rT_and, ↓rT_or, ↓rT_not, ↓rT_var, ↓rT_op, ↓rT_chain, ↓rT_call, ↓rT_cst, ↓rT_ife, ↓rI_seq, ↓rI_rng1, ↓rI_zip, ↓rB_nil, ↓rB_cons, ↓rS_asg, ↓rS_par, ↓rS_ex, ↓rS_ret, ↓rS_retN, ↓rS_iff, ↓rS_for, ↓rS_whl, ↓rS_rse, ↓rS_app, ↓rS_ext, ↓rS_sub, ↓run_pure, ↓run_bind, ↓run_ok, ↓run_exn, ↓run_bad, ↓r_getV, ↓got_some, ↓got_none, ↓got_map, ↓got_ite, ↓kB_bl, ↓gets_fz, ↓gets_un, ↓gets_tu, ↓movs_fz, ↓movs_un, ↓movs_tu, ↓next_next, ↓next_ret, ↓next_brk, ↓next_cnt, ↓ret_ret, ↓ret_exn, ↓ret_bad, ↓run_ite, ↓run_iteo, ↓run_of, ↓fin_ret, ↓fin_next, ↓finX_eq, ↓run_mbad, slot, rds, AV.rd, Own.simple, sv, Prim.run, Prim.ints, fzv, newl, outs, asgP, setAll, tupV, ownT, lstV, itemV, seqOf, lstOf, intOf, p_add, p_sub, p_mul, p_mod, p_fdiv, p_pow, p_neg, p_lt, p_le, p_gt, p_ge, p_isNone, p_notNone, p_idx, p_slLo, p_slHi, p_len, p_tuple, p_list, p_max2, p_min2, p_abs, p_int_, D.flat, passA, backA, takeA, frzA, List.getElem?_cons_zero, List.getElem?_cons_succ, Option.bind_some, Option.bind_none, id_eq, ↓reduceIte, List.map_cons, List.map_nil, List.cons_append, List.nil_append, List.replicate, List.set_cons_zero, List.set_cons_succ, and_true, true_and, and_self, eq_self, List.length_cons, List.length_nil, Nat.reduceAdd, Nat.reduceLeDiff, Nat.reduceLT, Bool.true_eq_false, Bool.false_eq_true, decide_true, decide_false, if_true, if_false, decide_eq_true_eq, Bool.and_eq_true, Bool.or_eq_true, List.all_cons, List.all_nil, Bool.and_true, Bool.and_self, ↓run_callG h.pick, ↓io__law_pick, e1, ↓run_callG h.draw, ↓io__law_draw, e2, ↓run_callG h.rows, ↓io__law_rows, e3']
  refine ⟨by decide, by decide, by decide, by decide, by decide, ?_⟩
  refine run_while (fun n τ => ∃ rr : Rows, n = rr.len ∧ rr.gen ks us 3 ∧ rr.len ≤ dw ∧ τ = [some (.scr ns, .fz), some (.lst (ts ++ zs (2 + k)), .un .fz), some (.int most, .fz), some (.tup (strsD ks), .fz), some (.tup (List.map D.int us), .fz), some (.tup rr.encs, .fz)]) ?_ _ rs.len _ (by show rs.len < P.fuel; omega) ⟨rs, rfl, c1, by omega, rfl⟩
  rintro n τ ⟨rr, rfl, r1, r2, rfl⟩
  have ec := law_count h.toHasCnt 2 (N + 11) rr (by have := Rows.dep_gen rr us 3 r1; omega) (by omega)
  simp only [↓rE_cst, ↓rE_glb, ↓rE_var, ↓rE_mov, ↓rE_tup, ↓rE_lst, ↓rE_op, ↓rE_ife, ↓rE_and, ↓rE_or, ↓rE_not, ↓rE_chain, ↓rE_call, ↓rE_mth, ↓rE_comp, ↓rE_dsp, ↓rO_var, ↓rO_op, ↓rO_cst, ↓rO_glb, ↓rO_mov, ↓rO_tup, ↓rO_lst, ↓rO_ife, ↓rO_and, ↓rO_or, ↓rO_not, ↓rO_chain, ↓rO_mth, ↓rO_call, ↓rO_comp, ↓rO_dsp, ↓rA_nil, ↓rA_cons, ↓rL_nil, ↓rL_cons, ↓rT_and, ↓rT_or, ↓rT_not, ↓rT_var, ↓rT_op, ↓rT_chain, ↓rT_call, ↓rT_cst, ↓rT_ife, ↓rI_seq, ↓rI_rng1, ↓rI_zip, ↓rB_nil, ↓rB_cons, ↓rS_asg, ↓rS_par, ↓rS_ex, ↓rS_ret, ↓rS_retN, ↓rS_iff, ↓rS_for, ↓rS_whl, ↓rS_rse, ↓rS_app, ↓rS_ext, ↓rS_sub, ↓run_pure, ↓run_bind, ↓run_ok, ↓run_exn, ↓run_bad, ↓r_getV, ↓got_some, ↓got_none, ↓got_map, ↓got_ite, ↓kB_bl, ↓gets_fz, ↓gets_un, ↓gets_tu, ↓movs_fz, ↓movs_un, ↓movs_tu, ↓next_next, ↓next_ret, ↓next_brk, ↓next_cnt, ↓ret_ret, ↓ret_exn, ↓ret_bad, ↓run_ite, ↓run_iteo, ↓run_of, ↓fin_ret, ↓fin_next, ↓finX_eq, ↓run_mbad, slot, rds, AV.rd, Own.simple, sv, Prim.run, Prim.ints, fzv, newl, outs, asgP, setAll, tupV, ownT, lstV, itemV, seqOf, lstOf, intOf, p_add, p_sub, p_mul, p_mod, p_fdiv, p_pow, p_neg, p_lt, p_le, p_gt, p_ge, p_isNone, p_notNone, p_idx, p_slLo, p_slHi, p_len, p_tuple, p_list, p_max2, p_min2, p_abs, p_int_, D.flat, passA, backA, takeA, frzA, List.getElem?_cons_zero, List.getElem?_cons_succ, Option.bind_some, Option.bind_none, id_eq, ↓reduceIte, List.map_cons, List.map_nil, List.cons_append, List.nil_append, List.replicate, List.set_cons_zero, List.set_cons_succ, and_true, true_and, and_self, eq_self, List.length_cons, List.length_nil, Nat.reduceAdd, Nat.reduceLeDiff, Nat.reduceLT, Bool.true_eq_false, Bool.false_eq_true, decide_true, decide_false, if_true, if_false, decide_eq_true_eq, Bool.and_eq_true, Bool.or_eq_true, List.all_cons, List.all_nil, Bool.and_true, Bool.and_self, ↓run_callG h.count, ↓io__law_count, ec]
  split
  · rename_i hc
    cases rr with
    | nil => rw [Rows.cnt] at hc; omega
    | cons r rr =>
      rw [Rows.gen] at r1
      refine ⟨rr.len, by rw [Rows.len]; omega, rr, rfl, r1.2, by rw [Rows.len] at r2; omega, ?_⟩
      rw [Rows.encs, cut1]
  · rename_i hc
    exact ⟨rr, us, 2 + k, hus, r1, by omega, by omega, rfl, rfl⟩
end Py

set_option Elab.async false
set_option linter.all false
set_option maxRecDepth 100000
set_option maxHeartbeats 4000000
namespace Py
open PySem
structure HasSub (P : Prg) : Prop where
  whole : P.fn "is_whole" = some fd_is_whole
  unit : P.fn "is_unit" = some fd_is_unit
  inner : P.fn "inner_of" = some fd_inner_of
  sumr : P.fn "is_sum_row" = some fd_is_sum_row
  row : P.fn "is_row" = some fd_is_row
  apart : P.fn "is_apart" = some fd_is_apart
  arer : P.fn "are_rows" = some fd_are_rows
  cnt : P.fn "count_of" = some fd_count_of
  own : P.fn "own_units" = some fd_own_units
  uin : P.fn "units_in" = some fd_units_in
  nrows : P.fn "need_rows" = some fd_need_rows
  nnum : P.fn "need_numbers" = some fd_need_numbers
  step : P.fn "step_on" = some fd_step_on
  rdone : P.fn "rows_done" = some fd_rows_done
  rowd : P.fn "row_done" = some fd_row_done
  reck : P.fn "reckoned" = some fd_reckoned
  gU : P.gc "UNITS" = some (.int 6)
  gG : P.gc "GREAT" = some (.int 9999)
  gR : P.gc "ROWS" = some (.int 12)
  gD : P.gc "DEEP" = some (.int 3)
  gM : P.gc "MANY" = some (.int 9)
  gB : P.gc "BEATS" = some (.int 500)
theorem is_whole {P : Prg} (h : HasSub P) (n : Nat) (t lo hi : Int) : callF P (n + 1) "is_whole" [(.int t, .fz), (.int lo, .fz), (.int hi, .fz)] = .ret (.bl (decide (lo ≤ t) && decide (t ≤ hi)), .fz) [] := by
  refine Ret.eq (call_run h.whole rfl ?_)
  simp only [fd_is_whole, ↓rE_cst, ↓rE_glb, ↓rE_var, ↓rE_mov, ↓rE_tup, ↓rE_lst, ↓rE_op, ↓rE_ife, ↓rE_and, ↓rE_or, ↓rE_not, ↓rE_chain, ↓rE_call, ↓rE_mth, ↓rE_comp, ↓rE_dsp, ↓rO_var, ↓rO_op, ↓rO_cst, ↓rO_glb, ↓rO_mov, ↓rO_tup, ↓rO_lst, ↓rO_ife, ↓rO_and, ↓rO_or, ↓rO_not, ↓rO_chain, ↓rO_mth, ↓rO_call, ↓rO_comp, ↓rO_dsp, ↓rA_nil, ↓rA_cons, ↓rL_nil, ↓rL_cons, ↓rT_and, ↓rT_or, ↓rT_not, ↓rT_var, ↓rT_op, ↓rT_chain, ↓rT_call, ↓rT_cst, ↓rT_ife, ↓rI_seq, ↓rI_rng1, ↓rI_zip, ↓rB_nil, ↓rB_cons, ↓rS_asg, ↓rS_par, ↓rS_ex, ↓rS_ret, ↓rS_retN, ↓rS_iff, ↓rS_for, ↓rS_whl, ↓rS_rse, ↓rS_app, ↓rS_ext, ↓rS_sub, ↓run_pure, ↓run_bind, ↓run_ok, ↓run_exn, ↓run_bad, ↓r_getV, ↓got_some, ↓got_none, ↓got_map, ↓got_ite, ↓kB_bl, ↓gets_fz, ↓gets_un, ↓gets_tu, ↓movs_fz, ↓movs_un, ↓movs_tu, ↓next_next, ↓next_ret, ↓next_brk, ↓next_cnt, ↓ret_ret, ↓ret_exn, ↓ret_bad, ↓run_ite, ↓run_iteo, ↓run_of, ↓fin_ret, ↓fin_next, ↓finX_eq, ↓run_mbad, slot, rds, AV.rd, Own.simple, sv, Prim.run, Prim.ints, fzv, newl, outs, asgP, setAll, tupV, ownT, lstV, itemV, seqOf, lstOf, intOf, p_add, p_sub, p_mul, p_mod, p_fdiv, p_pow, p_neg, p_lt, p_le, p_gt, p_ge, p_isNone, p_notNone, p_idx, p_slLo, p_slHi, p_len, p_tuple, p_list, p_max2, p_min2, p_abs, p_int_, D.flat, passA, backA, takeA, frzA, List.getElem?_cons_zero, List.getElem?_cons_succ, Option.bind_some, Option.bind_none, id_eq, ↓reduceIte, List.map_cons, List.map_nil, List.cons_append, List.nil_append, List.replicate, List.set_cons_zero, List.set_cons_succ, and_true, true_and, and_self, eq_self, List.length_cons, List.length_nil, Nat.reduceAdd, Nat.reduceLeDiff, Nat.reduceLT, Bool.true_eq_false, Bool.false_eq_true, decide_true, decide_false, if_true, if_false, decide_eq_true_eq, Bool.and_eq_true, Bool.or_eq_true, List.all_cons, List.all_nil, Bool.and_true, Bool.and_self, p_isInt, p_isBool, D.plain, Bool.not_false]
  by_cases c : lo ≤ t <;> simp [c]
theorem cfg_gc {P : Prg} {cl : Str → List Val → COut} : (P.cfg cl).gc = P.gc := rfl
theorem is_unit {P : Prg} (h : HasSub P) (n : Nat) (t : Int) : callF P (n + 2) "is_unit" [(.int t, .fz)] = .ret (.bl (decide (0 ≤ t) && decide (t ≤ 5)), .fz) [] := by
  refine Ret.eq (call_run h.unit rfl ?_)
  have e := is_whole h n t 0 5
  simp only [fd_is_unit, ↓rE_cst, ↓rE_glb, ↓rE_var, ↓rE_mov, ↓rE_tup, ↓rE_lst, ↓rE_op, ↓rE_ife, ↓rE_and, ↓rE_or, ↓rE_not, ↓rE_chain, ↓rE_call, ↓rE_mth, ↓rE_comp, ↓rE_dsp, ↓rO_var, ↓rO_op, ↓rO_cst, ↓rO_glb, ↓rO_mov, ↓rO_tup, ↓rO_lst, ↓rO_ife, ↓rO_and, ↓rO_or, ↓rO_not, ↓rO_chain, ↓rO_mth, ↓rO_call, ↓rO_comp, ↓rO_dsp, ↓rA_nil, ↓rA_cons, ↓rL_nil, ↓rL_cons, ↓rT_and, ↓rT_or, ↓rT_not, ↓rT_var, ↓rT_op, ↓rT_chain, ↓rT_call, ↓rT_cst, ↓rT_ife, ↓rI_seq, ↓rI_rng1, ↓rI_zip, ↓rB_nil, ↓rB_cons, ↓rS_asg, ↓rS_par, ↓rS_ex, ↓rS_ret, ↓rS_retN, ↓rS_iff, ↓rS_for, ↓rS_whl, ↓rS_rse, ↓rS_app, ↓rS_ext, ↓rS_sub, ↓run_pure, ↓run_bind, ↓run_ok, ↓run_exn, ↓run_bad, ↓r_getV, ↓got_some, ↓got_none, ↓got_map, ↓got_ite, ↓kB_bl, ↓gets_fz, ↓gets_un, ↓gets_tu, ↓movs_fz, ↓movs_un, ↓movs_tu, ↓next_next, ↓next_ret, ↓next_brk, ↓next_cnt, ↓ret_ret, ↓ret_exn, ↓ret_bad, ↓run_ite, ↓run_iteo, ↓run_of, ↓fin_ret, ↓fin_next, ↓finX_eq, ↓run_mbad, slot, rds, AV.rd, Own.simple, sv, Prim.run, Prim.ints, fzv, newl, outs, asgP, setAll, tupV, ownT, lstV, itemV, seqOf, lstOf, intOf, p_add, p_sub, p_mul, p_mod, p_fdiv, p_pow, p_neg, p_lt, p_le, p_gt, p_ge, p_isNone, p_notNone, p_idx, p_slLo, p_slHi, p_len, p_tuple, p_list, p_max2, p_min2, p_abs, p_int_, D.flat, passA, backA, takeA, frzA, List.getElem?_cons_zero, List.getElem?_cons_succ, Option.bind_some, Option.bind_none, id_eq, ↓reduceIte, List.map_cons, List.map_nil, List.cons_append, List.nil_append, List.replicate, List.set_cons_zero, List.set_cons_succ, and_true, true_and, and_self, eq_self, List.length_cons, List.length_nil, Nat.reduceAdd, Nat.reduceLeDiff, Nat.reduceLT, Bool.true_eq_false, Bool.false_eq_true, decide_true, decide_false, if_true, if_false, decide_eq_true_eq, Bool.and_eq_true, Bool.or_eq_true, List.all_cons, List.all_nil, Bool.and_true, Bool.and_self, cfg_gc, h.gU, ↓run_callG h.whole, ↓io_is_whole, Int.reduceSub, e]
end Py

set_option Elab.async false
set_option linter.all false
set_option maxRecDepth 100000
set_option maxHeartbeats 4000000
namespace Py
open PySem
theorem sn_add_less : ¬ ("add" : Str) = "less" := by decide +kernel
theorem sn_add_zero : ¬ ("add" : Str) = "zero" := by decide +kernel
theorem sn_add_if : ¬ ("add" : Str) = "if" := by decide +kernel
theorem sn_add_while : ¬ ("add" : Str) = "while" := by decide +kernel
theorem sn_add_beside : ¬ ("add" : Str) = "beside" := by decide +kernel
theorem sn_less_add : ¬ ("less" : Str) = "add" := by decide +kernel
theorem sn_less_zero : ¬ ("less" : Str) = "zero" := by decide +kernel
theorem sn_less_if : ¬ ("less" : Str) = "if" := by decide +kernel
theorem sn_less_while : ¬ ("less" : Str) = "while" := by decide +kernel
theorem sn_less_beside : ¬ ("less" : Str) = "beside" := by decide +kernel
theorem sn_zero_add : ¬ ("zero" : Str) = "add" := by decide +kernel
theorem sn_zero_less : ¬ ("zero" : Str) = "less" := by decide +kernel
theorem sn_zero_if : ¬ ("zero" : Str) = "if" := by decide +kernel
theorem sn_zero_while : ¬ ("zero" : Str) = "while" := by decide +kernel
theorem sn_zero_beside : ¬ ("zero" : Str) = "beside" := by decide +kernel
theorem sn_if_add : ¬ ("if" : Str) = "add" := by decide +kernel
theorem sn_if_less : ¬ ("if" : Str) = "less" := by decide +kernel
theorem sn_if_zero : ¬ ("if" : Str) = "zero" := by decide +kernel
theorem sn_if_while : ¬ ("if" : Str) = "while" := by decide +kernel
theorem sn_if_beside : ¬ ("if" : Str) = "beside" := by decide +kernel
theorem sn_while_add : ¬ ("while" : Str) = "add" := by decide +kernel
theorem sn_while_less : ¬ ("while" : Str) = "less" := by decide +kernel
theorem sn_while_zero : ¬ ("while" : Str) = "zero" := by decide +kernel
theorem sn_while_if : ¬ ("while" : Str) = "if" := by decide +kernel
theorem sn_while_beside : ¬ ("while" : Str) = "beside" := by decide +kernel
theorem sn_beside_add : ¬ ("beside" : Str) = "add" := by decide +kernel
theorem sn_beside_less : ¬ ("beside" : Str) = "less" := by decide +kernel
theorem sn_beside_zero : ¬ ("beside" : Str) = "zero" := by decide +kernel
theorem sn_beside_if : ¬ ("beside" : Str) = "if" := by decide +kernel
theorem sn_beside_while : ¬ ("beside" : Str) = "while" := by decide +kernel
theorem dct3 (a b c : D) : mergeD [] [((Sum.inr "if" : Sum Int Str), a), (.inr "while", b), (.inr "beside", c)] = [(.inr "if", a), (.inr "while", b), (.inr "beside", c)] := by
  simp [mergeD, lookK, sn_add_less, sn_add_zero, sn_add_if, sn_add_while, sn_add_beside, sn_less_add, sn_less_zero, sn_less_if, sn_less_while, sn_less_beside, sn_zero_add, sn_zero_less, sn_zero_if, sn_zero_while, sn_zero_beside, sn_if_add, sn_if_less, sn_if_zero, sn_if_while, sn_if_beside, sn_while_add, sn_while_less, sn_while_zero, sn_while_if, sn_while_beside, sn_beside_add, sn_beside_less, sn_beside_zero, sn_beside_if, sn_beside_while]
theorem at0 (x : D) (xs : List D) : atI (x :: xs) 0 = some x := by
  obtain ⟨v, e, q⟩ := atI_some (xs := x :: xs) (k := 0) (by decide) (by rw [List.length_cons]; omega)
  rw [e]; simpa using q.symm
theorem inner_of {P : Prg} (h : HasSub P) (n : Nat) (r : Row) : callF P (n + 1) "inner_of" [(r.enc, .fz)] = .ret (.lst (r.inner.map encT), .un .fz) [] := by
  refine Ret.eq (call_run h.inner rfl ?_)
  cases r with
  | sum l a b m => cases l <;> simp [Row.enc, Row.inner, fd_inner_of, ↓rE_cst, ↓rE_glb, ↓rE_var, ↓rE_mov, ↓rE_tup, ↓rE_lst, ↓rE_op, ↓rE_ife, ↓rE_and, ↓rE_or, ↓rE_not, ↓rE_chain, ↓rE_call, ↓rE_mth, ↓rE_comp, ↓rE_dsp, ↓rO_var, ↓rO_op, ↓rO_cst, ↓rO_glb, ↓rO_mov, ↓rO_tup, ↓rO_lst, ↓rO_ife, ↓rO_and, ↓rO_or, ↓rO_not, ↓rO_chain, ↓rO_mth, ↓rO_call, ↓rO_comp, ↓rO_dsp, ↓rA_nil, ↓rA_cons, ↓rL_nil, ↓rL_cons, ↓rT_and, ↓rT_or, ↓rT_not, ↓rT_var, ↓rT_op, ↓rT_chain, ↓rT_call, ↓rT_cst, ↓rT_ife, ↓rI_seq, ↓rI_rng1, ↓rI_zip, ↓rB_nil, ↓rB_cons, ↓rS_asg, ↓rS_par, ↓rS_ex, ↓rS_ret, ↓rS_retN, ↓rS_iff, ↓rS_for, ↓rS_whl, ↓rS_rse, ↓rS_app, ↓rS_ext, ↓rS_sub, ↓run_pure, ↓run_bind, ↓run_ok, ↓run_exn, ↓run_bad, ↓r_getV, ↓got_some, ↓got_none, ↓got_map, ↓got_ite, ↓kB_bl, ↓gets_fz, ↓gets_un, ↓gets_tu, ↓movs_fz, ↓movs_un, ↓movs_tu, ↓next_next, ↓next_ret, ↓next_brk, ↓next_cnt, ↓ret_ret, ↓ret_exn, ↓ret_bad, ↓run_ite, ↓run_iteo, ↓run_of, ↓fin_ret, ↓fin_next, ↓finX_eq, ↓run_mbad, slot, rds, AV.rd, Own.simple, sv, Prim.run, Prim.ints, fzv, newl, outs, asgP, setAll, tupV, ownT, lstV, itemV, seqOf, lstOf, intOf, p_add, p_sub, p_mul, p_mod, p_fdiv, p_pow, p_neg, p_lt, p_le, p_gt, p_ge, p_isNone, p_notNone, p_idx, p_slLo, p_slHi, p_len, p_tuple, p_list, p_max2, p_min2, p_abs, p_int_, D.flat, passA, backA, takeA, frzA, List.getElem?_cons_zero, List.getElem?_cons_succ, Option.bind_some, Option.bind_none, id_eq, ↓reduceIte, List.map_cons, List.map_nil, List.cons_append, List.nil_append, List.replicate, List.set_cons_zero, List.set_cons_succ, and_true, true_and, and_self, eq_self, List.length_cons, List.length_nil, Nat.reduceAdd, Nat.reduceLeDiff, Nat.reduceLT, Bool.true_eq_false, Bool.false_eq_true, decide_true, decide_false, if_true, if_false, decide_eq_true_eq, Bool.and_eq_true, Bool.or_eq_true, List.all_cons, List.all_nil, Bool.and_true, Bool.and_self, at0, cut2, cut1, dct3, p_dget2, D.still, D.key?, lookK, D.kind, Prim.kind, sn_add_less, sn_add_zero, sn_add_if, sn_add_while, sn_add_beside, sn_less_add, sn_less_zero, sn_less_if, sn_less_while, sn_less_beside, sn_zero_add, sn_zero_less, sn_zero_if, sn_zero_while, sn_zero_beside, sn_if_add, sn_if_less, sn_if_zero, sn_if_while, sn_if_beside, sn_while_add, sn_while_less, sn_while_zero, sn_while_if, sn_while_beside, sn_beside_add, sn_beside_less, sn_beside_zero, sn_beside_if, sn_beside_while, big]
  | zero a => simp [Row.enc, Row.inner, fd_inner_of, ↓rE_cst, ↓rE_glb, ↓rE_var, ↓rE_mov, ↓rE_tup, ↓rE_lst, ↓rE_op, ↓rE_ife, ↓rE_and, ↓rE_or, ↓rE_not, ↓rE_chain, ↓rE_call, ↓rE_mth, ↓rE_comp, ↓rE_dsp, ↓rO_var, ↓rO_op, ↓rO_cst, ↓rO_glb, ↓rO_mov, ↓rO_tup, ↓rO_lst, ↓rO_ife, ↓rO_and, ↓rO_or, ↓rO_not, ↓rO_chain, ↓rO_mth, ↓rO_call, ↓rO_comp, ↓rO_dsp, ↓rA_nil, ↓rA_cons, ↓rL_nil, ↓rL_cons, ↓rT_and, ↓rT_or, ↓rT_not, ↓rT_var, ↓rT_op, ↓rT_chain, ↓rT_call, ↓rT_cst, ↓rT_ife, ↓rI_seq, ↓rI_rng1, ↓rI_zip, ↓rB_nil, ↓rB_cons, ↓rS_asg, ↓rS_par, ↓rS_ex, ↓rS_ret, ↓rS_retN, ↓rS_iff, ↓rS_for, ↓rS_whl, ↓rS_rse, ↓rS_app, ↓rS_ext, ↓rS_sub, ↓run_pure, ↓run_bind, ↓run_ok, ↓run_exn, ↓run_bad, ↓r_getV, ↓got_some, ↓got_none, ↓got_map, ↓got_ite, ↓kB_bl, ↓gets_fz, ↓gets_un, ↓gets_tu, ↓movs_fz, ↓movs_un, ↓movs_tu, ↓next_next, ↓next_ret, ↓next_brk, ↓next_cnt, ↓ret_ret, ↓ret_exn, ↓ret_bad, ↓run_ite, ↓run_iteo, ↓run_of, ↓fin_ret, ↓fin_next, ↓finX_eq, ↓run_mbad, slot, rds, AV.rd, Own.simple, sv, Prim.run, Prim.ints, fzv, newl, outs, asgP, setAll, tupV, ownT, lstV, itemV, seqOf, lstOf, intOf, p_add, p_sub, p_mul, p_mod, p_fdiv, p_pow, p_neg, p_lt, p_le, p_gt, p_ge, p_isNone, p_notNone, p_idx, p_slLo, p_slHi, p_len, p_tuple, p_list, p_max2, p_min2, p_abs, p_int_, D.flat, passA, backA, takeA, frzA, List.getElem?_cons_zero, List.getElem?_cons_succ, Option.bind_some, Option.bind_none, id_eq, ↓reduceIte, List.map_cons, List.map_nil, List.cons_append, List.nil_append, List.replicate, List.set_cons_zero, List.set_cons_succ, and_true, true_and, and_self, eq_self, List.length_cons, List.length_nil, Nat.reduceAdd, Nat.reduceLeDiff, Nat.reduceLT, Bool.true_eq_false, Bool.false_eq_true, decide_true, decide_false, if_true, if_false, decide_eq_true_eq, Bool.and_eq_true, Bool.or_eq_true, List.all_cons, List.all_nil, Bool.and_true, Bool.and_self, at0, cut2, cut1, dct3, p_dget2, D.still, D.key?, lookK, D.kind, Prim.kind, sn_add_less, sn_add_zero, sn_add_if, sn_add_while, sn_add_beside, sn_less_add, sn_less_zero, sn_less_if, sn_less_while, sn_less_beside, sn_zero_add, sn_zero_less, sn_zero_if, sn_zero_while, sn_zero_beside, sn_if_add, sn_if_less, sn_if_zero, sn_if_while, sn_if_beside, sn_while_add, sn_while_less, sn_while_zero, sn_while_if, sn_while_beside, sn_beside_add, sn_beside_less, sn_beside_zero, sn_beside_if, sn_beside_while, big]
  | iff a x y => simp [Row.enc, Row.inner, fd_inner_of, ↓rE_cst, ↓rE_glb, ↓rE_var, ↓rE_mov, ↓rE_tup, ↓rE_lst, ↓rE_op, ↓rE_ife, ↓rE_and, ↓rE_or, ↓rE_not, ↓rE_chain, ↓rE_call, ↓rE_mth, ↓rE_comp, ↓rE_dsp, ↓rO_var, ↓rO_op, ↓rO_cst, ↓rO_glb, ↓rO_mov, ↓rO_tup, ↓rO_lst, ↓rO_ife, ↓rO_and, ↓rO_or, ↓rO_not, ↓rO_chain, ↓rO_mth, ↓rO_call, ↓rO_comp, ↓rO_dsp, ↓rA_nil, ↓rA_cons, ↓rL_nil, ↓rL_cons, ↓rT_and, ↓rT_or, ↓rT_not, ↓rT_var, ↓rT_op, ↓rT_chain, ↓rT_call, ↓rT_cst, ↓rT_ife, ↓rI_seq, ↓rI_rng1, ↓rI_zip, ↓rB_nil, ↓rB_cons, ↓rS_asg, ↓rS_par, ↓rS_ex, ↓rS_ret, ↓rS_retN, ↓rS_iff, ↓rS_for, ↓rS_whl, ↓rS_rse, ↓rS_app, ↓rS_ext, ↓rS_sub, ↓run_pure, ↓run_bind, ↓run_ok, ↓run_exn, ↓run_bad, ↓r_getV, ↓got_some, ↓got_none, ↓got_map, ↓got_ite, ↓kB_bl, ↓gets_fz, ↓gets_un, ↓gets_tu, ↓movs_fz, ↓movs_un, ↓movs_tu, ↓next_next, ↓next_ret, ↓next_brk, ↓next_cnt, ↓ret_ret, ↓ret_exn, ↓ret_bad, ↓run_ite, ↓run_iteo, ↓run_of, ↓fin_ret, ↓fin_next, ↓finX_eq, ↓run_mbad, slot, rds, AV.rd, Own.simple, sv, Prim.run, Prim.ints, fzv, newl, outs, asgP, setAll, tupV, ownT, lstV, itemV, seqOf, lstOf, intOf, p_add, p_sub, p_mul, p_mod, p_fdiv, p_pow, p_neg, p_lt, p_le, p_gt, p_ge, p_isNone, p_notNone, p_idx, p_slLo, p_slHi, p_len, p_tuple, p_list, p_max2, p_min2, p_abs, p_int_, D.flat, passA, backA, takeA, frzA, List.getElem?_cons_zero, List.getElem?_cons_succ, Option.bind_some, Option.bind_none, id_eq, ↓reduceIte, List.map_cons, List.map_nil, List.cons_append, List.nil_append, List.replicate, List.set_cons_zero, List.set_cons_succ, and_true, true_and, and_self, eq_self, List.length_cons, List.length_nil, Nat.reduceAdd, Nat.reduceLeDiff, Nat.reduceLT, Bool.true_eq_false, Bool.false_eq_true, decide_true, decide_false, if_true, if_false, decide_eq_true_eq, Bool.and_eq_true, Bool.or_eq_true, List.all_cons, List.all_nil, Bool.and_true, Bool.and_self, at0, cut2, cut1, dct3, p_dget2, D.still, D.key?, lookK, D.kind, Prim.kind, sn_add_less, sn_add_zero, sn_add_if, sn_add_while, sn_add_beside, sn_less_add, sn_less_zero, sn_less_if, sn_less_while, sn_less_beside, sn_zero_add, sn_zero_less, sn_zero_if, sn_zero_while, sn_zero_beside, sn_if_add, sn_if_less, sn_if_zero, sn_if_while, sn_if_beside, sn_while_add, sn_while_less, sn_while_zero, sn_while_if, sn_while_beside, sn_beside_add, sn_beside_less, sn_beside_zero, sn_beside_if, sn_beside_while, big, encT]
  | whl a x => simp [Row.enc, Row.inner, fd_inner_of, ↓rE_cst, ↓rE_glb, ↓rE_var, ↓rE_mov, ↓rE_tup, ↓rE_lst, ↓rE_op, ↓rE_ife, ↓rE_and, ↓rE_or, ↓rE_not, ↓rE_chain, ↓rE_call, ↓rE_mth, ↓rE_comp, ↓rE_dsp, ↓rO_var, ↓rO_op, ↓rO_cst, ↓rO_glb, ↓rO_mov, ↓rO_tup, ↓rO_lst, ↓rO_ife, ↓rO_and, ↓rO_or, ↓rO_not, ↓rO_chain, ↓rO_mth, ↓rO_call, ↓rO_comp, ↓rO_dsp, ↓rA_nil, ↓rA_cons, ↓rL_nil, ↓rL_cons, ↓rT_and, ↓rT_or, ↓rT_not, ↓rT_var, ↓rT_op, ↓rT_chain, ↓rT_call, ↓rT_cst, ↓rT_ife, ↓rI_seq, ↓rI_rng1, ↓rI_zip, ↓rB_nil, ↓rB_cons, ↓rS_asg, ↓rS_par, ↓rS_ex, ↓rS_ret, ↓rS_retN, ↓rS_iff, ↓rS_for, ↓rS_whl, ↓rS_rse, ↓rS_app, ↓rS_ext, ↓rS_sub, ↓run_pure, ↓run_bind, ↓run_ok, ↓run_exn, ↓run_bad, ↓r_getV, ↓got_some, ↓got_none, ↓got_map, ↓got_ite, ↓kB_bl, ↓gets_fz, ↓gets_un, ↓gets_tu, ↓movs_fz, ↓movs_un, ↓movs_tu, ↓next_next, ↓next_ret, ↓next_brk, ↓next_cnt, ↓ret_ret, ↓ret_exn, ↓ret_bad, ↓run_ite, ↓run_iteo, ↓run_of, ↓fin_ret, ↓fin_next, ↓finX_eq, ↓run_mbad, slot, rds, AV.rd, Own.simple, sv, Prim.run, Prim.ints, fzv, newl, outs, asgP, setAll, tupV, ownT, lstV, itemV, seqOf, lstOf, intOf, p_add, p_sub, p_mul, p_mod, p_fdiv, p_pow, p_neg, p_lt, p_le, p_gt, p_ge, p_isNone, p_notNone, p_idx, p_slLo, p_slHi, p_len, p_tuple, p_list, p_max2, p_min2, p_abs, p_int_, D.flat, passA, backA, takeA, frzA, List.getElem?_cons_zero, List.getElem?_cons_succ, Option.bind_some, Option.bind_none, id_eq, ↓reduceIte, List.map_cons, List.map_nil, List.cons_append, List.nil_append, List.replicate, List.set_cons_zero, List.set_cons_succ, and_true, true_and, and_self, eq_self, List.length_cons, List.length_nil, Nat.reduceAdd, Nat.reduceLeDiff, Nat.reduceLT, Bool.true_eq_false, Bool.false_eq_true, decide_true, decide_false, if_true, if_false, decide_eq_true_eq, Bool.and_eq_true, Bool.or_eq_true, List.all_cons, List.all_nil, Bool.and_true, Bool.and_self, at0, cut2, cut1, dct3, p_dget2, D.still, D.key?, lookK, D.kind, Prim.kind, sn_add_less, sn_add_zero, sn_add_if, sn_add_while, sn_add_beside, sn_less_add, sn_less_zero, sn_less_if, sn_less_while, sn_less_beside, sn_zero_add, sn_zero_less, sn_zero_if, sn_zero_while, sn_zero_beside, sn_if_add, sn_if_less, sn_if_zero, sn_if_while, sn_if_beside, sn_while_add, sn_while_less, sn_while_zero, sn_while_if, sn_while_beside, sn_beside_add, sn_beside_less, sn_beside_zero, sn_beside_if, sn_beside_while, big, encT]
  | beside x y => simp [Row.enc, Row.inner, fd_inner_of, ↓rE_cst, ↓rE_glb, ↓rE_var, ↓rE_mov, ↓rE_tup, ↓rE_lst, ↓rE_op, ↓rE_ife, ↓rE_and, ↓rE_or, ↓rE_not, ↓rE_chain, ↓rE_call, ↓rE_mth, ↓rE_comp, ↓rE_dsp, ↓rO_var, ↓rO_op, ↓rO_cst, ↓rO_glb, ↓rO_mov, ↓rO_tup, ↓rO_lst, ↓rO_ife, ↓rO_and, ↓rO_or, ↓rO_not, ↓rO_chain, ↓rO_mth, ↓rO_call, ↓rO_comp, ↓rO_dsp, ↓rA_nil, ↓rA_cons, ↓rL_nil, ↓rL_cons, ↓rT_and, ↓rT_or, ↓rT_not, ↓rT_var, ↓rT_op, ↓rT_chain, ↓rT_call, ↓rT_cst, ↓rT_ife, ↓rI_seq, ↓rI_rng1, ↓rI_zip, ↓rB_nil, ↓rB_cons, ↓rS_asg, ↓rS_par, ↓rS_ex, ↓rS_ret, ↓rS_retN, ↓rS_iff, ↓rS_for, ↓rS_whl, ↓rS_rse, ↓rS_app, ↓rS_ext, ↓rS_sub, ↓run_pure, ↓run_bind, ↓run_ok, ↓run_exn, ↓run_bad, ↓r_getV, ↓got_some, ↓got_none, ↓got_map, ↓got_ite, ↓kB_bl, ↓gets_fz, ↓gets_un, ↓gets_tu, ↓movs_fz, ↓movs_un, ↓movs_tu, ↓next_next, ↓next_ret, ↓next_brk, ↓next_cnt, ↓ret_ret, ↓ret_exn, ↓ret_bad, ↓run_ite, ↓run_iteo, ↓run_of, ↓fin_ret, ↓fin_next, ↓finX_eq, ↓run_mbad, slot, rds, AV.rd, Own.simple, sv, Prim.run, Prim.ints, fzv, newl, outs, asgP, setAll, tupV, ownT, lstV, itemV, seqOf, lstOf, intOf, p_add, p_sub, p_mul, p_mod, p_fdiv, p_pow, p_neg, p_lt, p_le, p_gt, p_ge, p_isNone, p_notNone, p_idx, p_slLo, p_slHi, p_len, p_tuple, p_list, p_max2, p_min2, p_abs, p_int_, D.flat, passA, backA, takeA, frzA, List.getElem?_cons_zero, List.getElem?_cons_succ, Option.bind_some, Option.bind_none, id_eq, ↓reduceIte, List.map_cons, List.map_nil, List.cons_append, List.nil_append, List.replicate, List.set_cons_zero, List.set_cons_succ, and_true, true_and, and_self, eq_self, List.length_cons, List.length_nil, Nat.reduceAdd, Nat.reduceLeDiff, Nat.reduceLT, Bool.true_eq_false, Bool.false_eq_true, decide_true, decide_false, if_true, if_false, decide_eq_true_eq, Bool.and_eq_true, Bool.or_eq_true, List.all_cons, List.all_nil, Bool.and_true, Bool.and_self, at0, cut2, cut1, dct3, p_dget2, D.still, D.key?, lookK, D.kind, Prim.kind, sn_add_less, sn_add_zero, sn_add_if, sn_add_while, sn_add_beside, sn_less_add, sn_less_zero, sn_less_if, sn_less_while, sn_less_beside, sn_zero_add, sn_zero_less, sn_zero_if, sn_zero_while, sn_zero_beside, sn_if_add, sn_if_less, sn_if_zero, sn_if_while, sn_if_beside, sn_while_add, sn_while_less, sn_while_zero, sn_while_if, sn_while_beside, sn_beside_add, sn_beside_less, sn_beside_zero, sn_beside_if, sn_beside_while, big, encT]
end Py

set_option Elab.async false
set_option linter.all false
set_option maxRecDepth 100000
set_option maxHeartbeats 4000000
namespace Py
open PySem
theorem count_step {P : Prg} (h : HasSub P) (N : Nat) (rs : Rows) (ih : ∀ x : Rows, x.dep + 1 ≤ rs.dep → callF P (N + 1) "count_of" [(.tup x.encs, .fz)] = .ret (.int x.cnt, .fz) []) : callF P (N + 2) "count_of" [(.tup rs.encs, .fz)] = .ret (.int rs.cnt, .fz) [] := by
  refine Ret.eq (call_run h.cnt rfl ?_)
  simp only [fd_count_of, ↓rE_cst, ↓rE_glb, ↓rE_var, ↓rE_mov, ↓rE_tup, ↓rE_lst, ↓rE_op, ↓rE_ife, ↓rE_and, ↓rE_or, ↓rE_not, ↓rE_chain, ↓rE_call, ↓rE_mth, ↓rE_comp, ↓rE_dsp, ↓rO_var, ↓rO_op, ↓rO_cst, ↓rO_glb, ↓rO_mov, ↓rO_tup, ↓rO_lst, ↓rO_ife, ↓rO_and, ↓rO_or, ↓rO_not, ↓rO_chain, ↓rO_mth, ↓rO_call, ↓rO_comp, ↓rO_dsp, ↓rA_nil, ↓rA_cons, ↓rL_nil, ↓rL_cons, ↓rT_and, ↓rT_or, ↓rT_not, ↓rT_var, ↓rT_op, ↓rT_chain, ↓rT_call, ↓rT_cst, ↓rT_ife, ↓rI_seq, ↓rI_rng1, ↓rI_zip, ↓rB_nil, ↓rB_cons, ↓rS_asg, ↓rS_par, ↓rS_ex, ↓rS_ret, ↓rS_retN, ↓rS_iff, ↓rS_for, ↓rS_whl, ↓rS_rse, ↓rS_app, ↓rS_ext, ↓rS_sub, ↓run_pure, ↓run_bind, ↓run_ok, ↓run_exn, ↓run_bad, ↓r_getV, ↓got_some, ↓got_none, ↓got_map, ↓got_ite, ↓kB_bl, ↓gets_fz, ↓gets_un, ↓gets_tu, ↓movs_fz, ↓movs_un, ↓movs_tu, ↓next_next, ↓next_ret, ↓next_brk, ↓next_cnt, ↓ret_ret, ↓ret_exn, ↓ret_bad, ↓run_ite, ↓run_iteo, ↓run_of, ↓fin_ret, ↓fin_next, ↓finX_eq, ↓run_mbad, slot, rds, AV.rd, Own.simple, sv, Prim.run, Prim.ints, fzv, newl, outs, asgP, setAll, tupV, ownT, lstV, itemV, seqOf, lstOf, intOf, p_add, p_sub, p_mul, p_mod, p_fdiv, p_pow, p_neg, p_lt, p_le, p_gt, p_ge, p_isNone, p_notNone, p_idx, p_slLo, p_slHi, p_len, p_tuple, p_list, p_max2, p_min2, p_abs, p_int_, D.flat, passA, backA, takeA, frzA, List.getElem?_cons_zero, List.getElem?_cons_succ, Option.bind_some, Option.bind_none, id_eq, ↓reduceIte, List.map_cons, List.map_nil, List.cons_append, List.nil_append, List.replicate, List.set_cons_zero, List.set_cons_succ, and_true, true_and, and_self, eq_self, List.length_cons, List.length_nil, Nat.reduceAdd, Nat.reduceLeDiff, Nat.reduceLT, Bool.true_eq_false, Bool.false_eq_true, decide_true, decide_false, if_true, if_false, decide_eq_true_eq, Bool.and_eq_true, Bool.or_eq_true, List.all_cons, List.all_nil, Bool.and_true, Bool.and_self]
  refine run_comp (fun r acc τ => τ = [some (.tup rs.encs, .fz), none, none] ∧ ∃ (rr : Rows) (ms : List Int), r = rr.encs ∧ rr.dep ≤ rs.dep ∧ acc = intsD ms ∧ ms.sum + rr.cnt = rs.cnt) ?_ ?_ ?_
  · simp only [wipeF, clr, ↓rE_cst, ↓rE_glb, ↓rE_var, ↓rE_mov, ↓rE_tup, ↓rE_lst, ↓rE_op, ↓rE_ife, ↓rE_and, ↓rE_or, ↓rE_not, ↓rE_chain, ↓rE_call, ↓rE_mth, ↓rE_comp, ↓rE_dsp, ↓rO_var, ↓rO_op, ↓rO_cst, ↓rO_glb, ↓rO_mov, ↓rO_tup, ↓rO_lst, ↓rO_ife, ↓rO_and, ↓rO_or, ↓rO_not, ↓rO_chain, ↓rO_mth, ↓rO_call, ↓rO_comp, ↓rO_dsp, ↓rA_nil, ↓rA_cons, ↓rL_nil, ↓rL_cons, ↓rT_and, ↓rT_or, ↓rT_not, ↓rT_var, ↓rT_op, ↓rT_chain, ↓rT_call, ↓rT_cst, ↓rT_ife, ↓rI_seq, ↓rI_rng1, ↓rI_zip, ↓rB_nil, ↓rB_cons, ↓rS_asg, ↓rS_par, ↓rS_ex, ↓rS_ret, ↓rS_retN, ↓rS_iff, ↓rS_for, ↓rS_whl, ↓rS_rse, ↓rS_app, ↓rS_ext, ↓rS_sub, ↓run_pure, ↓run_bind, ↓run_ok, ↓run_exn, ↓run_bad, ↓r_getV, ↓got_some, ↓got_none, ↓got_map, ↓got_ite, ↓kB_bl, ↓gets_fz, ↓gets_un, ↓gets_tu, ↓movs_fz, ↓movs_un, ↓movs_tu, ↓next_next, ↓next_ret, ↓next_brk, ↓next_cnt, ↓ret_ret, ↓ret_exn, ↓ret_bad, ↓run_ite, ↓run_iteo, ↓run_of, ↓fin_ret, ↓fin_next, ↓finX_eq, ↓run_mbad, slot, rds, AV.rd, Own.simple, sv, Prim.run, Prim.ints, fzv, newl, outs, asgP, setAll, tupV, ownT, lstV, itemV, seqOf, lstOf, intOf, p_add, p_sub, p_mul, p_mod, p_fdiv, p_pow, p_neg, p_lt, p_le, p_gt, p_ge, p_isNone, p_notNone, p_idx, p_slLo, p_slHi, p_len, p_tuple, p_list, p_max2, p_min2, p_abs, p_int_, D.flat, passA, backA, takeA, frzA, List.getElem?_cons_zero, List.getElem?_cons_succ, Option.bind_some, Option.bind_none, id_eq, ↓reduceIte, List.map_cons, List.map_nil, List.cons_append, List.nil_append, List.replicate, List.set_cons_zero, List.set_cons_succ, and_true, true_and, and_self, eq_self, List.length_cons, List.length_nil, Nat.reduceAdd, Nat.reduceLeDiff, Nat.reduceLT, Bool.true_eq_false, Bool.false_eq_true, decide_true, decide_false, if_true, if_false, decide_eq_true_eq, Bool.and_eq_true, Bool.or_eq_true, List.all_cons, List.all_nil, Bool.and_true, Bool.and_self]
    exact ⟨rs, [], rfl, Nat.le_refl _, rfl, by simp⟩
  · rintro x r acc τ ⟨rfl, rr, ms, hr, hd, rfl, hs⟩
    cases rr with
    | nil => rw [Rows.encs] at hr; cases hr
    | cons row rr =>
      rw [Rows.encs] at hr
      cases hr
      rw [Rows.dep] at hd
      have ei := inner_of h N row
      simp only [↓rE_cst, ↓rE_glb, ↓rE_var, ↓rE_mov, ↓rE_tup, ↓rE_lst, ↓rE_op, ↓rE_ife, ↓rE_and, ↓rE_or, ↓rE_not, ↓rE_chain, ↓rE_call, ↓rE_mth, ↓rE_comp, ↓rE_dsp, ↓rO_var, ↓rO_op, ↓rO_cst, ↓rO_glb, ↓rO_mov, ↓rO_tup, ↓rO_lst, ↓rO_ife, ↓rO_and, ↓rO_or, ↓rO_not, ↓rO_chain, ↓rO_mth, ↓rO_call, ↓rO_comp, ↓rO_dsp, ↓rA_nil, ↓rA_cons, ↓rL_nil, ↓rL_cons, ↓rT_and, ↓rT_or, ↓rT_not, ↓rT_var, ↓rT_op, ↓rT_chain, ↓rT_call, ↓rT_cst, ↓rT_ife, ↓rI_seq, ↓rI_rng1, ↓rI_zip, ↓rB_nil, ↓rB_cons, ↓rS_asg, ↓rS_par, ↓rS_ex, ↓rS_ret, ↓rS_retN, ↓rS_iff, ↓rS_for, ↓rS_whl, ↓rS_rse, ↓rS_app, ↓rS_ext, ↓rS_sub, ↓run_pure, ↓run_bind, ↓run_ok, ↓run_exn, ↓run_bad, ↓r_getV, ↓got_some, ↓got_none, ↓got_map, ↓got_ite, ↓kB_bl, ↓gets_fz, ↓gets_un, ↓gets_tu, ↓movs_fz, ↓movs_un, ↓movs_tu, ↓next_next, ↓next_ret, ↓next_brk, ↓next_cnt, ↓ret_ret, ↓ret_exn, ↓ret_bad, ↓run_ite, ↓run_iteo, ↓run_of, ↓fin_ret, ↓fin_next, ↓finX_eq, ↓run_mbad, slot, rds, AV.rd, Own.simple, sv, Prim.run, Prim.ints, fzv, newl, outs, asgP, setAll, tupV, ownT, lstV, itemV, seqOf, lstOf, intOf, p_add, p_sub, p_mul, p_mod, p_fdiv, p_pow, p_neg, p_lt, p_le, p_gt, p_ge, p_isNone, p_notNone, p_idx, p_slLo, p_slHi, p_len, p_tuple, p_list, p_max2, p_min2, p_abs, p_int_, D.flat, passA, backA, takeA, frzA, List.getElem?_cons_zero, List.getElem?_cons_succ, Option.bind_some, Option.bind_none, id_eq, ↓reduceIte, List.map_cons, List.map_nil, List.cons_append, List.nil_append, List.replicate, List.set_cons_zero, List.set_cons_succ, and_true, true_and, and_self, eq_self, List.length_cons, List.length_nil, Nat.reduceAdd, Nat.reduceLeDiff, Nat.reduceLT, Bool.true_eq_false, Bool.false_eq_true, decide_true, decide_false, if_true, if_false, decide_eq_true_eq, Bool.and_eq_true, Bool.or_eq_true, List.all_cons, List.all_nil, Bool.and_true, Bool.and_self, evC, ↓run_callG h.inner, ↓io_inner_of, ei]
      refine run_comp (fun r acc τ => τ = [some (.tup rs.encs, .fz), some (row.enc, .fz), none] ∧ ∃ (l : List Rows) (ks : List Int), r = l.map encT ∧ (∀ x ∈ l, x.dep + 1 ≤ rs.dep) ∧ acc = intsD ks ∧ ks.sum + (l.map fun x => (x.cnt : Int)).sum + 1 = row.cnt) ?_ ?_ ?_
      · simp only [wipeF, clr, ↓rE_cst, ↓rE_glb, ↓rE_var, ↓rE_mov, ↓rE_tup, ↓rE_lst, ↓rE_op, ↓rE_ife, ↓rE_and, ↓rE_or, ↓rE_not, ↓rE_chain, ↓rE_call, ↓rE_mth, ↓rE_comp, ↓rE_dsp, ↓rO_var, ↓rO_op, ↓rO_cst, ↓rO_glb, ↓rO_mov, ↓rO_tup, ↓rO_lst, ↓rO_ife, ↓rO_and, ↓rO_or, ↓rO_not, ↓rO_chain, ↓rO_mth, ↓rO_call, ↓rO_comp, ↓rO_dsp, ↓rA_nil, ↓rA_cons, ↓rL_nil, ↓rL_cons, ↓rT_and, ↓rT_or, ↓rT_not, ↓rT_var, ↓rT_op, ↓rT_chain, ↓rT_call, ↓rT_cst, ↓rT_ife, ↓rI_seq, ↓rI_rng1, ↓rI_zip, ↓rB_nil, ↓rB_cons, ↓rS_asg, ↓rS_par, ↓rS_ex, ↓rS_ret, ↓rS_retN, ↓rS_iff, ↓rS_for, ↓rS_whl, ↓rS_rse, ↓rS_app, ↓rS_ext, ↓rS_sub, ↓run_pure, ↓run_bind, ↓run_ok, ↓run_exn, ↓run_bad, ↓r_getV, ↓got_some, ↓got_none, ↓got_map, ↓got_ite, ↓kB_bl, ↓gets_fz, ↓gets_un, ↓gets_tu, ↓movs_fz, ↓movs_un, ↓movs_tu, ↓next_next, ↓next_ret, ↓next_brk, ↓next_cnt, ↓ret_ret, ↓ret_exn, ↓ret_bad, ↓run_ite, ↓run_iteo, ↓run_of, ↓fin_ret, ↓fin_next, ↓finX_eq, ↓run_mbad, slot, rds, AV.rd, Own.simple, sv, Prim.run, Prim.ints, fzv, newl, outs, asgP, setAll, tupV, ownT, lstV, itemV, seqOf, lstOf, intOf, p_add, p_sub, p_mul, p_mod, p_fdiv, p_pow, p_neg, p_lt, p_le, p_gt, p_ge, p_isNone, p_notNone, p_idx, p_slLo, p_slHi, p_len, p_tuple, p_list, p_max2, p_min2, p_abs, p_int_, D.flat, passA, backA, takeA, frzA, List.getElem?_cons_zero, List.getElem?_cons_succ, Option.bind_some, Option.bind_none, id_eq, ↓reduceIte, List.map_cons, List.map_nil, List.cons_append, List.nil_append, List.replicate, List.set_cons_zero, List.set_cons_succ, and_true, true_and, and_self, eq_self, List.length_cons, List.length_nil, Nat.reduceAdd, Nat.reduceLeDiff, Nat.reduceLT, Bool.true_eq_false, Bool.false_eq_true, decide_true, decide_false, if_true, if_false, decide_eq_true_eq, Bool.and_eq_true, Bool.or_eq_true, List.all_cons, List.all_nil, Bool.and_true, Bool.and_self]
        exact ⟨row.inner, [], rfl, fun x hx => by have := inner_dep hx; omega, rfl, by have := inner_cnt row; simpa using this⟩
      · rintro x r acc τ ⟨rfl, l, ks, hr, hx, rfl, hk⟩
        cases l with
        | nil => cases hr
        | cons y l =>
          cases hr
          have ey := ih y (hx y List.mem_cons_self)
          simp only [encT, ↓rE_cst, ↓rE_glb, ↓rE_var, ↓rE_mov, ↓rE_tup, ↓rE_lst, ↓rE_op, ↓rE_ife, ↓rE_and, ↓rE_or, ↓rE_not, ↓rE_chain, ↓rE_call, ↓rE_mth, ↓rE_comp, ↓rE_dsp, ↓rO_var, ↓rO_op, ↓rO_cst, ↓rO_glb, ↓rO_mov, ↓rO_tup, ↓rO_lst, ↓rO_ife, ↓rO_and, ↓rO_or, ↓rO_not, ↓rO_chain, ↓rO_mth, ↓rO_call, ↓rO_comp, ↓rO_dsp, ↓rA_nil, ↓rA_cons, ↓rL_nil, ↓rL_cons, ↓rT_and, ↓rT_or, ↓rT_not, ↓rT_var, ↓rT_op, ↓rT_chain, ↓rT_call, ↓rT_cst, ↓rT_ife, ↓rI_seq, ↓rI_rng1, ↓rI_zip, ↓rB_nil, ↓rB_cons, ↓rS_asg, ↓rS_par, ↓rS_ex, ↓rS_ret, ↓rS_retN, ↓rS_iff, ↓rS_for, ↓rS_whl, ↓rS_rse, ↓rS_app, ↓rS_ext, ↓rS_sub, ↓run_pure, ↓run_bind, ↓run_ok, ↓run_exn, ↓run_bad, ↓r_getV, ↓got_some, ↓got_none, ↓got_map, ↓got_ite, ↓kB_bl, ↓gets_fz, ↓gets_un, ↓gets_tu, ↓movs_fz, ↓movs_un, ↓movs_tu, ↓next_next, ↓next_ret, ↓next_brk, ↓next_cnt, ↓ret_ret, ↓ret_exn, ↓ret_bad, ↓run_ite, ↓run_iteo, ↓run_of, ↓fin_ret, ↓fin_next, ↓finX_eq, ↓run_mbad, slot, rds, AV.rd, Own.simple, sv, Prim.run, Prim.ints, fzv, newl, outs, asgP, setAll, tupV, ownT, lstV, itemV, seqOf, lstOf, intOf, p_add, p_sub, p_mul, p_mod, p_fdiv, p_pow, p_neg, p_lt, p_le, p_gt, p_ge, p_isNone, p_notNone, p_idx, p_slLo, p_slHi, p_len, p_tuple, p_list, p_max2, p_min2, p_abs, p_int_, D.flat, passA, backA, takeA, frzA, List.getElem?_cons_zero, List.getElem?_cons_succ, Option.bind_some, Option.bind_none, id_eq, ↓reduceIte, List.map_cons, List.map_nil, List.cons_append, List.nil_append, List.replicate, List.set_cons_zero, List.set_cons_succ, and_true, true_and, and_self, eq_self, List.length_cons, List.length_nil, Nat.reduceAdd, Nat.reduceLeDiff, Nat.reduceLT, Bool.true_eq_false, Bool.false_eq_true, decide_true, decide_false, if_true, if_false, decide_eq_true_eq, Bool.and_eq_true, Bool.or_eq_true, List.all_cons, List.all_nil, Bool.and_true, Bool.and_self, evC, ↓run_callG h.cnt, ↓io_count_of, ey, clr]
          refine ⟨l, ks ++ [(y.cnt : Int)], rfl, fun x h => hx x (List.mem_cons_of_mem _ h), by unfold intsD; rw [List.map_append]; rfl, ?_⟩
          rw [List.sum_append, List.sum_singleton]
          rw [List.map_cons, List.sum_cons] at hk
          omega
      · rintro xs τ ⟨rfl, l, ks, hr, hx, rfl, hk⟩
        have el : l = [] := by
          cases l with
          | nil => rfl
          | cons _ _ => cases hr
        subst el
        simp only [putBack, ↓rE_cst, ↓rE_glb, ↓rE_var, ↓rE_mov, ↓rE_tup, ↓rE_lst, ↓rE_op, ↓rE_ife, ↓rE_and, ↓rE_or, ↓rE_not, ↓rE_chain, ↓rE_call, ↓rE_mth, ↓rE_comp, ↓rE_dsp, ↓rO_var, ↓rO_op, ↓rO_cst, ↓rO_glb, ↓rO_mov, ↓rO_tup, ↓rO_lst, ↓rO_ife, ↓rO_and, ↓rO_or, ↓rO_not, ↓rO_chain, ↓rO_mth, ↓rO_call, ↓rO_comp, ↓rO_dsp, ↓rA_nil, ↓rA_cons, ↓rL_nil, ↓rL_cons, ↓rT_and, ↓rT_or, ↓rT_not, ↓rT_var, ↓rT_op, ↓rT_chain, ↓rT_call, ↓rT_cst, ↓rT_ife, ↓rI_seq, ↓rI_rng1, ↓rI_zip, ↓rB_nil, ↓rB_cons, ↓rS_asg, ↓rS_par, ↓rS_ex, ↓rS_ret, ↓rS_retN, ↓rS_iff, ↓rS_for, ↓rS_whl, ↓rS_rse, ↓rS_app, ↓rS_ext, ↓rS_sub, ↓run_pure, ↓run_bind, ↓run_ok, ↓run_exn, ↓run_bad, ↓r_getV, ↓got_some, ↓got_none, ↓got_map, ↓got_ite, ↓kB_bl, ↓gets_fz, ↓gets_un, ↓gets_tu, ↓movs_fz, ↓movs_un, ↓movs_tu, ↓next_next, ↓next_ret, ↓next_brk, ↓next_cnt, ↓ret_ret, ↓ret_exn, ↓ret_bad, ↓run_ite, ↓run_iteo, ↓run_of, ↓fin_ret, ↓fin_next, ↓finX_eq, ↓run_mbad, slot, rds, AV.rd, Own.simple, sv, Prim.run, Prim.ints, fzv, newl, outs, asgP, setAll, tupV, ownT, lstV, itemV, seqOf, lstOf, intOf, p_add, p_sub, p_mul, p_mod, p_fdiv, p_pow, p_neg, p_lt, p_le, p_gt, p_ge, p_isNone, p_notNone, p_idx, p_slLo, p_slHi, p_len, p_tuple, p_list, p_max2, p_min2, p_abs, p_int_, D.flat, passA, backA, takeA, frzA, List.getElem?_cons_zero, List.getElem?_cons_succ, Option.bind_some, Option.bind_none, id_eq, ↓reduceIte, List.map_cons, List.map_nil, List.cons_append, List.nil_append, List.replicate, List.set_cons_zero, List.set_cons_succ, and_true, true_and, and_self, eq_self, List.length_cons, List.length_nil, Nat.reduceAdd, Nat.reduceLeDiff, Nat.reduceLT, Bool.true_eq_false, Bool.false_eq_true, decide_true, decide_false, if_true, if_false, decide_eq_true_eq, Bool.and_eq_true, Bool.or_eq_true, List.all_cons, List.all_nil, Bool.and_true, Bool.and_self, p_sum, ints_ints?, Option.map_some, clr]
        refine ⟨rr, ms ++ [1 + ks.sum], rfl, by omega, by unfold intsD; rw [List.map_append]; rfl, ?_⟩
        rw [List.sum_append, List.sum_singleton]
        rw [Rows.cnt] at hs
        simp only [List.map_nil, List.sum_nil] at hk
        omega
  · rintro xs τ ⟨rfl, rr, ms, hr, hd, rfl, hs⟩
    cases rr with
    | cons row rr => rw [Rows.encs] at hr; cases hr
    | nil =>
      simp only [putBack, ↓rE_cst, ↓rE_glb, ↓rE_var, ↓rE_mov, ↓rE_tup, ↓rE_lst, ↓rE_op, ↓rE_ife, ↓rE_and, ↓rE_or, ↓rE_not, ↓rE_chain, ↓rE_call, ↓rE_mth, ↓rE_comp, ↓rE_dsp, ↓rO_var, ↓rO_op, ↓rO_cst, ↓rO_glb, ↓rO_mov, ↓rO_tup, ↓rO_lst, ↓rO_ife, ↓rO_and, ↓rO_or, ↓rO_not, ↓rO_chain, ↓rO_mth, ↓rO_call, ↓rO_comp, ↓rO_dsp, ↓rA_nil, ↓rA_cons, ↓rL_nil, ↓rL_cons, ↓rT_and, ↓rT_or, ↓rT_not, ↓rT_var, ↓rT_op, ↓rT_chain, ↓rT_call, ↓rT_cst, ↓rT_ife, ↓rI_seq, ↓rI_rng1, ↓rI_zip, ↓rB_nil, ↓rB_cons, ↓rS_asg, ↓rS_par, ↓rS_ex, ↓rS_ret, ↓rS_retN, ↓rS_iff, ↓rS_for, ↓rS_whl, ↓rS_rse, ↓rS_app, ↓rS_ext, ↓rS_sub, ↓run_pure, ↓run_bind, ↓run_ok, ↓run_exn, ↓run_bad, ↓r_getV, ↓got_some, ↓got_none, ↓got_map, ↓got_ite, ↓kB_bl, ↓gets_fz, ↓gets_un, ↓gets_tu, ↓movs_fz, ↓movs_un, ↓movs_tu, ↓next_next, ↓next_ret, ↓next_brk, ↓next_cnt, ↓ret_ret, ↓ret_exn, ↓ret_bad, ↓run_ite, ↓run_iteo, ↓run_of, ↓fin_ret, ↓fin_next, ↓finX_eq, ↓run_mbad, slot, rds, AV.rd, Own.simple, sv, Prim.run, Prim.ints, fzv, newl, outs, asgP, setAll, tupV, ownT, lstV, itemV, seqOf, lstOf, intOf, p_add, p_sub, p_mul, p_mod, p_fdiv, p_pow, p_neg, p_lt, p_le, p_gt, p_ge, p_isNone, p_notNone, p_idx, p_slLo, p_slHi, p_len, p_tuple, p_list, p_max2, p_min2, p_abs, p_int_, D.flat, passA, backA, takeA, frzA, List.getElem?_cons_zero, List.getElem?_cons_succ, Option.bind_some, Option.bind_none, id_eq, ↓reduceIte, List.map_cons, List.map_nil, List.cons_append, List.nil_append, List.replicate, List.set_cons_zero, List.set_cons_succ, and_true, true_and, and_self, eq_self, List.length_cons, List.length_nil, Nat.reduceAdd, Nat.reduceLeDiff, Nat.reduceLT, Bool.true_eq_false, Bool.false_eq_true, decide_true, decide_false, if_true, if_false, decide_eq_true_eq, Bool.and_eq_true, Bool.or_eq_true, List.all_cons, List.all_nil, Bool.and_true, Bool.and_self, p_sum, ints_ints?, Option.map_some]
      rw [Rows.cnt] at hs
      simp at hs
      rw [hs]
theorem count_of {P : Prg} (h : HasSub P) : ∀ (D0 N : Nat) (rs : Rows), rs.dep ≤ D0 → D0 + 2 ≤ N → callF P N "count_of" [(.tup rs.encs, .fz)] = .ret (.int rs.cnt, .fz) []
  | 0, N, rs, hd, hN => by
    obtain ⟨N, rfl⟩ : ∃ M, N = M + 2 := ⟨N - 2, by omega⟩
    exact count_step h N rs fun x hx => absurd hx (by omega)
  | D0 + 1, N, rs, hd, hN => by
    obtain ⟨N, rfl⟩ : ∃ M, N = M + 2 := ⟨N - 2, by omega⟩
    exact count_step h N rs fun x hx => count_of h D0 (N + 1) x (by omega) (by omega)
theorem is_sum_row {P : Prg} (h : HasSub P) (n : Nat) (l : Bool) (a b m : Int) (ha : 0 ≤ a ∧ a ≤ 5) (hb : 0 ≤ b ∧ b ≤ 5) (hab : a ≠ b) (hm : 1 ≤ m ∧ m ≤ 9) : callF P (n + 3) "is_sum_row" [((Row.sum l a b m).enc, .fz)] = .ret (.bl true, .fz) [] := by
  refine Ret.eq (call_run h.sumr rfl ?_)
  have e1 := is_unit h n a
  have e2 := is_unit h n b
  have e3 := is_whole h (n + 1) m 1 9
  cases l <;> simp [Row.enc, fd_is_sum_row, ↓rE_cst, ↓rE_glb, ↓rE_var, ↓rE_mov, ↓rE_tup, ↓rE_lst, ↓rE_op, ↓rE_ife, ↓rE_and, ↓rE_or, ↓rE_not, ↓rE_chain, ↓rE_call, ↓rE_mth, ↓rE_comp, ↓rE_dsp, ↓rO_var, ↓rO_op, ↓rO_cst, ↓rO_glb, ↓rO_mov, ↓rO_tup, ↓rO_lst, ↓rO_ife, ↓rO_and, ↓rO_or, ↓rO_not, ↓rO_chain, ↓rO_mth, ↓rO_call, ↓rO_comp, ↓rO_dsp, ↓rA_nil, ↓rA_cons, ↓rL_nil, ↓rL_cons, ↓rT_and, ↓rT_or, ↓rT_not, ↓rT_var, ↓rT_op, ↓rT_chain, ↓rT_call, ↓rT_cst, ↓rT_ife, ↓rI_seq, ↓rI_rng1, ↓rI_zip, ↓rB_nil, ↓rB_cons, ↓rS_asg, ↓rS_par, ↓rS_ex, ↓rS_ret, ↓rS_retN, ↓rS_iff, ↓rS_for, ↓rS_whl, ↓rS_rse, ↓rS_app, ↓rS_ext, ↓rS_sub, ↓run_pure, ↓run_bind, ↓run_ok, ↓run_exn, ↓run_bad, ↓r_getV, ↓got_some, ↓got_none, ↓got_map, ↓got_ite, ↓kB_bl, ↓gets_fz, ↓gets_un, ↓gets_tu, ↓movs_fz, ↓movs_un, ↓movs_tu, ↓next_next, ↓next_ret, ↓next_brk, ↓next_cnt, ↓ret_ret, ↓ret_exn, ↓ret_bad, ↓run_ite, ↓run_iteo, ↓run_of, ↓fin_ret, ↓fin_next, ↓finX_eq, ↓run_mbad, slot, rds, AV.rd, Own.simple, sv, Prim.run, Prim.ints, fzv, newl, outs, asgP, setAll, tupV, ownT, lstV, itemV, seqOf, lstOf, intOf, p_add, p_sub, p_mul, p_mod, p_fdiv, p_pow, p_neg, p_lt, p_le, p_gt, p_ge, p_isNone, p_notNone, p_idx, p_slLo, p_slHi, p_len, p_tuple, p_list, p_max2, p_min2, p_abs, p_int_, D.flat, passA, backA, takeA, frzA, List.getElem?_cons_zero, List.getElem?_cons_succ, Option.bind_some, Option.bind_none, id_eq, ↓reduceIte, List.map_cons, List.map_nil, List.cons_append, List.nil_append, List.replicate, List.set_cons_zero, List.set_cons_succ, and_true, true_and, and_self, eq_self, List.length_cons, List.length_nil, Nat.reduceAdd, Nat.reduceLeDiff, Nat.reduceLT, Bool.true_eq_false, Bool.false_eq_true, decide_true, decide_false, if_true, if_false, decide_eq_true_eq, Bool.and_eq_true, Bool.or_eq_true, List.all_cons, List.all_nil, Bool.and_true, Bool.and_self, atI, ixN, p_ne, p_eq, eq_int, ↓run_callG h.unit, ↓io_is_unit, ↓run_callG h.whole, ↓io_is_whole, e1, e2, e3, ha, hb, hm, hab, cfg_gc, h.gM]
end Py

set_option Elab.async false
set_option linter.all false
set_option maxRecDepth 100000
set_option maxHeartbeats 4000000
namespace Py
open PySem
mutual
def Row.units : Row → List Int
  | .sum _ a b _ => [a, b]
  | .zero a => [a]
  | .iff a x y => a :: (x.units ++ y.units)
  | .whl a x => a :: x.units
  | .beside x y => x.units ++ y.units
def Rows.units : Rows → List Int
  | .nil => []
  | .cons r rs => r.units ++ rs.units
end
def Row.own : Row → List Int
  | .sum _ a b _ => [a, b]
  | .zero a => [a]
  | .iff a _ _ => [a]
  | .whl a _ => [a]
  | .beside _ _ => []
theorem units_own (r : Row) : r.units = r.own ++ (r.inner.map Rows.units).flatten := by
  cases r <;> simp [Row.units, Row.own, Row.inner]
mutual
theorem Row.units_len : ∀ r : Row, r.units.length ≤ 2 * r.cnt
  | .sum _ _ _ _ => by simp [Row.units, Row.cnt]
  | .zero _ => by simp [Row.units, Row.cnt]
  | .iff a x y => by
    have h1 := Rows.units_len x
    have h2 := Rows.units_len y
    simp [Row.units, Row.cnt]
    omega
  | .whl a x => by
    have h1 := Rows.units_len x
    simp [Row.units, Row.cnt]
    omega
  | .beside x y => by
    have h1 := Rows.units_len x
    have h2 := Rows.units_len y
    simp [Row.units, Row.cnt]
    omega
theorem Rows.units_len : ∀ r : Rows, r.units.length ≤ 2 * r.cnt
  | .nil => by simp [Rows.units, Rows.cnt]
  | .cons r rs => by
    have h1 := Row.units_len r
    have h2 := Rows.units_len rs
    simp [Rows.units, Rows.cnt]
    omega
end
theorem at1 (y x : D) (xs : List D) : atI (y :: x :: xs) 1 = some x := by
  obtain ⟨v, e, q⟩ := atI_some (xs := y :: x :: xs) (k := 1) (by decide) (by rw [List.length_cons, List.length_cons]; omega)
  rw [e]; simpa using q.symm
theorem at2 (z y x : D) (xs : List D) : atI (z :: y :: x :: xs) 2 = some x := by
  obtain ⟨v, e, q⟩ := atI_some (xs := z :: y :: x :: xs) (k := 2) (by decide) (by rw [List.length_cons, List.length_cons, List.length_cons]; omega)
  rw [e]; simpa using q.symm
theorem own_units {P : Prg} (h : HasSub P) (n : Nat) (r : Row) : callF P (n + 1) "own_units" [(r.enc, .fz)] = .ret (.lst (intsD r.own), .un .fz) [] := by
  refine Ret.eq (call_run h.own rfl ?_)
  cases r with
  | sum l a b m => cases l <;> simp [Row.enc, Row.own, intsD, fd_own_units, ↓rE_cst, ↓rE_glb, ↓rE_var, ↓rE_mov, ↓rE_tup, ↓rE_lst, ↓rE_op, ↓rE_ife, ↓rE_and, ↓rE_or, ↓rE_not, ↓rE_chain, ↓rE_call, ↓rE_mth, ↓rE_comp, ↓rE_dsp, ↓rO_var, ↓rO_op, ↓rO_cst, ↓rO_glb, ↓rO_mov, ↓rO_tup, ↓rO_lst, ↓rO_ife, ↓rO_and, ↓rO_or, ↓rO_not, ↓rO_chain, ↓rO_mth, ↓rO_call, ↓rO_comp, ↓rO_dsp, ↓rA_nil, ↓rA_cons, ↓rL_nil, ↓rL_cons, ↓rT_and, ↓rT_or, ↓rT_not, ↓rT_var, ↓rT_op, ↓rT_chain, ↓rT_call, ↓rT_cst, ↓rT_ife, ↓rI_seq, ↓rI_rng1, ↓rI_zip, ↓rB_nil, ↓rB_cons, ↓rS_asg, ↓rS_par, ↓rS_ex, ↓rS_ret, ↓rS_retN, ↓rS_iff, ↓rS_for, ↓rS_whl, ↓rS_rse, ↓rS_app, ↓rS_ext, ↓rS_sub, ↓run_pure, ↓run_bind, ↓run_ok, ↓run_exn, ↓run_bad, ↓r_getV, ↓got_some, ↓got_none, ↓got_map, ↓got_ite, ↓kB_bl, ↓gets_fz, ↓gets_un, ↓gets_tu, ↓movs_fz, ↓movs_un, ↓movs_tu, ↓next_next, ↓next_ret, ↓next_brk, ↓next_cnt, ↓ret_ret, ↓ret_exn, ↓ret_bad, ↓run_ite, ↓run_iteo, ↓run_of, ↓fin_ret, ↓fin_next, ↓finX_eq, ↓run_mbad, slot, rds, AV.rd, Own.simple, sv, Prim.run, Prim.ints, fzv, newl, outs, asgP, setAll, tupV, ownT, lstV, itemV, seqOf, lstOf, intOf, p_add, p_sub, p_mul, p_mod, p_fdiv, p_pow, p_neg, p_lt, p_le, p_gt, p_ge, p_isNone, p_notNone, p_idx, p_slLo, p_slHi, p_len, p_tuple, p_list, p_max2, p_min2, p_abs, p_int_, D.flat, passA, backA, takeA, frzA, List.getElem?_cons_zero, List.getElem?_cons_succ, Option.bind_some, Option.bind_none, id_eq, ↓reduceIte, List.map_cons, List.map_nil, List.cons_append, List.nil_append, List.replicate, List.set_cons_zero, List.set_cons_succ, and_true, true_and, and_self, eq_self, List.length_cons, List.length_nil, Nat.reduceAdd, Nat.reduceLeDiff, Nat.reduceLT, Bool.true_eq_false, Bool.false_eq_true, decide_true, decide_false, if_true, if_false, decide_eq_true_eq, Bool.and_eq_true, Bool.or_eq_true, List.all_cons, List.all_nil, Bool.and_true, Bool.and_self, at0, at1, at2, in_2, p_ne, se_add_add, se_add_less, se_add_zero, se_add_if, se_add_while, se_add_beside, se_less_add, se_less_less, se_less_zero, se_less_if, se_less_while, se_less_beside, se_zero_add, se_zero_less, se_zero_zero, se_zero_if, se_zero_while, se_zero_beside, se_if_add, se_if_less, se_if_zero, se_if_if, se_if_while, se_if_beside, se_while_add, se_while_less, se_while_zero, se_while_if, se_while_while, se_while_beside, se_beside_add, se_beside_less, se_beside_zero, se_beside_if, se_beside_while, se_beside_beside, ss_add_less, ss_add_zero, ss_add_if, ss_add_while, ss_add_beside, ss_less_add, ss_less_zero, ss_less_if, ss_less_while, ss_less_beside, ss_zero_add, ss_zero_less, ss_zero_if, ss_zero_while, ss_zero_beside, ss_if_add, ss_if_less, ss_if_zero, ss_if_while, ss_if_beside, ss_while_add, ss_while_less, ss_while_zero, ss_while_if, ss_while_beside, ss_beside_add, ss_beside_less, ss_beside_zero, ss_beside_if, ss_beside_while, big]
  | zero a => simp [Row.enc, Row.own, intsD, fd_own_units, ↓rE_cst, ↓rE_glb, ↓rE_var, ↓rE_mov, ↓rE_tup, ↓rE_lst, ↓rE_op, ↓rE_ife, ↓rE_and, ↓rE_or, ↓rE_not, ↓rE_chain, ↓rE_call, ↓rE_mth, ↓rE_comp, ↓rE_dsp, ↓rO_var, ↓rO_op, ↓rO_cst, ↓rO_glb, ↓rO_mov, ↓rO_tup, ↓rO_lst, ↓rO_ife, ↓rO_and, ↓rO_or, ↓rO_not, ↓rO_chain, ↓rO_mth, ↓rO_call, ↓rO_comp, ↓rO_dsp, ↓rA_nil, ↓rA_cons, ↓rL_nil, ↓rL_cons, ↓rT_and, ↓rT_or, ↓rT_not, ↓rT_var, ↓rT_op, ↓rT_chain, ↓rT_call, ↓rT_cst, ↓rT_ife, ↓rI_seq, ↓rI_rng1, ↓rI_zip, ↓rB_nil, ↓rB_cons, ↓rS_asg, ↓rS_par, ↓rS_ex, ↓rS_ret, ↓rS_retN, ↓rS_iff, ↓rS_for, ↓rS_whl, ↓rS_rse, ↓rS_app, ↓rS_ext, ↓rS_sub, ↓run_pure, ↓run_bind, ↓run_ok, ↓run_exn, ↓run_bad, ↓r_getV, ↓got_some, ↓got_none, ↓got_map, ↓got_ite, ↓kB_bl, ↓gets_fz, ↓gets_un, ↓gets_tu, ↓movs_fz, ↓movs_un, ↓movs_tu, ↓next_next, ↓next_ret, ↓next_brk, ↓next_cnt, ↓ret_ret, ↓ret_exn, ↓ret_bad, ↓run_ite, ↓run_iteo, ↓run_of, ↓fin_ret, ↓fin_next, ↓finX_eq, ↓run_mbad, slot, rds, AV.rd, Own.simple, sv, Prim.run, Prim.ints, fzv, newl, outs, asgP, setAll, tupV, ownT, lstV, itemV, seqOf, lstOf, intOf, p_add, p_sub, p_mul, p_mod, p_fdiv, p_pow, p_neg, p_lt, p_le, p_gt, p_ge, p_isNone, p_notNone, p_idx, p_slLo, p_slHi, p_len, p_tuple, p_list, p_max2, p_min2, p_abs, p_int_, D.flat, passA, backA, takeA, frzA, List.getElem?_cons_zero, List.getElem?_cons_succ, Option.bind_some, Option.bind_none, id_eq, ↓reduceIte, List.map_cons, List.map_nil, List.cons_append, List.nil_append, List.replicate, List.set_cons_zero, List.set_cons_succ, and_true, true_and, and_self, eq_self, List.length_cons, List.length_nil, Nat.reduceAdd, Nat.reduceLeDiff, Nat.reduceLT, Bool.true_eq_false, Bool.false_eq_true, decide_true, decide_false, if_true, if_false, decide_eq_true_eq, Bool.and_eq_true, Bool.or_eq_true, List.all_cons, List.all_nil, Bool.and_true, Bool.and_self, at0, at1, at2, in_2, p_ne, se_add_add, se_add_less, se_add_zero, se_add_if, se_add_while, se_add_beside, se_less_add, se_less_less, se_less_zero, se_less_if, se_less_while, se_less_beside, se_zero_add, se_zero_less, se_zero_zero, se_zero_if, se_zero_while, se_zero_beside, se_if_add, se_if_less, se_if_zero, se_if_if, se_if_while, se_if_beside, se_while_add, se_while_less, se_while_zero, se_while_if, se_while_while, se_while_beside, se_beside_add, se_beside_less, se_beside_zero, se_beside_if, se_beside_while, se_beside_beside, ss_add_less, ss_add_zero, ss_add_if, ss_add_while, ss_add_beside, ss_less_add, ss_less_zero, ss_less_if, ss_less_while, ss_less_beside, ss_zero_add, ss_zero_less, ss_zero_if, ss_zero_while, ss_zero_beside, ss_if_add, ss_if_less, ss_if_zero, ss_if_while, ss_if_beside, ss_while_add, ss_while_less, ss_while_zero, ss_while_if, ss_while_beside, ss_beside_add, ss_beside_less, ss_beside_zero, ss_beside_if, ss_beside_while, big]
  | iff a x y => simp [Row.enc, Row.own, intsD, fd_own_units, ↓rE_cst, ↓rE_glb, ↓rE_var, ↓rE_mov, ↓rE_tup, ↓rE_lst, ↓rE_op, ↓rE_ife, ↓rE_and, ↓rE_or, ↓rE_not, ↓rE_chain, ↓rE_call, ↓rE_mth, ↓rE_comp, ↓rE_dsp, ↓rO_var, ↓rO_op, ↓rO_cst, ↓rO_glb, ↓rO_mov, ↓rO_tup, ↓rO_lst, ↓rO_ife, ↓rO_and, ↓rO_or, ↓rO_not, ↓rO_chain, ↓rO_mth, ↓rO_call, ↓rO_comp, ↓rO_dsp, ↓rA_nil, ↓rA_cons, ↓rL_nil, ↓rL_cons, ↓rT_and, ↓rT_or, ↓rT_not, ↓rT_var, ↓rT_op, ↓rT_chain, ↓rT_call, ↓rT_cst, ↓rT_ife, ↓rI_seq, ↓rI_rng1, ↓rI_zip, ↓rB_nil, ↓rB_cons, ↓rS_asg, ↓rS_par, ↓rS_ex, ↓rS_ret, ↓rS_retN, ↓rS_iff, ↓rS_for, ↓rS_whl, ↓rS_rse, ↓rS_app, ↓rS_ext, ↓rS_sub, ↓run_pure, ↓run_bind, ↓run_ok, ↓run_exn, ↓run_bad, ↓r_getV, ↓got_some, ↓got_none, ↓got_map, ↓got_ite, ↓kB_bl, ↓gets_fz, ↓gets_un, ↓gets_tu, ↓movs_fz, ↓movs_un, ↓movs_tu, ↓next_next, ↓next_ret, ↓next_brk, ↓next_cnt, ↓ret_ret, ↓ret_exn, ↓ret_bad, ↓run_ite, ↓run_iteo, ↓run_of, ↓fin_ret, ↓fin_next, ↓finX_eq, ↓run_mbad, slot, rds, AV.rd, Own.simple, sv, Prim.run, Prim.ints, fzv, newl, outs, asgP, setAll, tupV, ownT, lstV, itemV, seqOf, lstOf, intOf, p_add, p_sub, p_mul, p_mod, p_fdiv, p_pow, p_neg, p_lt, p_le, p_gt, p_ge, p_isNone, p_notNone, p_idx, p_slLo, p_slHi, p_len, p_tuple, p_list, p_max2, p_min2, p_abs, p_int_, D.flat, passA, backA, takeA, frzA, List.getElem?_cons_zero, List.getElem?_cons_succ, Option.bind_some, Option.bind_none, id_eq, ↓reduceIte, List.map_cons, List.map_nil, List.cons_append, List.nil_append, List.replicate, List.set_cons_zero, List.set_cons_succ, and_true, true_and, and_self, eq_self, List.length_cons, List.length_nil, Nat.reduceAdd, Nat.reduceLeDiff, Nat.reduceLT, Bool.true_eq_false, Bool.false_eq_true, decide_true, decide_false, if_true, if_false, decide_eq_true_eq, Bool.and_eq_true, Bool.or_eq_true, List.all_cons, List.all_nil, Bool.and_true, Bool.and_self, at0, at1, at2, in_2, p_ne, se_add_add, se_add_less, se_add_zero, se_add_if, se_add_while, se_add_beside, se_less_add, se_less_less, se_less_zero, se_less_if, se_less_while, se_less_beside, se_zero_add, se_zero_less, se_zero_zero, se_zero_if, se_zero_while, se_zero_beside, se_if_add, se_if_less, se_if_zero, se_if_if, se_if_while, se_if_beside, se_while_add, se_while_less, se_while_zero, se_while_if, se_while_while, se_while_beside, se_beside_add, se_beside_less, se_beside_zero, se_beside_if, se_beside_while, se_beside_beside, ss_add_less, ss_add_zero, ss_add_if, ss_add_while, ss_add_beside, ss_less_add, ss_less_zero, ss_less_if, ss_less_while, ss_less_beside, ss_zero_add, ss_zero_less, ss_zero_if, ss_zero_while, ss_zero_beside, ss_if_add, ss_if_less, ss_if_zero, ss_if_while, ss_if_beside, ss_while_add, ss_while_less, ss_while_zero, ss_while_if, ss_while_beside, ss_beside_add, ss_beside_less, ss_beside_zero, ss_beside_if, ss_beside_while, big]
  | whl a x => simp [Row.enc, Row.own, intsD, fd_own_units, ↓rE_cst, ↓rE_glb, ↓rE_var, ↓rE_mov, ↓rE_tup, ↓rE_lst, ↓rE_op, ↓rE_ife, ↓rE_and, ↓rE_or, ↓rE_not, ↓rE_chain, ↓rE_call, ↓rE_mth, ↓rE_comp, ↓rE_dsp, ↓rO_var, ↓rO_op, ↓rO_cst, ↓rO_glb, ↓rO_mov, ↓rO_tup, ↓rO_lst, ↓rO_ife, ↓rO_and, ↓rO_or, ↓rO_not, ↓rO_chain, ↓rO_mth, ↓rO_call, ↓rO_comp, ↓rO_dsp, ↓rA_nil, ↓rA_cons, ↓rL_nil, ↓rL_cons, ↓rT_and, ↓rT_or, ↓rT_not, ↓rT_var, ↓rT_op, ↓rT_chain, ↓rT_call, ↓rT_cst, ↓rT_ife, ↓rI_seq, ↓rI_rng1, ↓rI_zip, ↓rB_nil, ↓rB_cons, ↓rS_asg, ↓rS_par, ↓rS_ex, ↓rS_ret, ↓rS_retN, ↓rS_iff, ↓rS_for, ↓rS_whl, ↓rS_rse, ↓rS_app, ↓rS_ext, ↓rS_sub, ↓run_pure, ↓run_bind, ↓run_ok, ↓run_exn, ↓run_bad, ↓r_getV, ↓got_some, ↓got_none, ↓got_map, ↓got_ite, ↓kB_bl, ↓gets_fz, ↓gets_un, ↓gets_tu, ↓movs_fz, ↓movs_un, ↓movs_tu, ↓next_next, ↓next_ret, ↓next_brk, ↓next_cnt, ↓ret_ret, ↓ret_exn, ↓ret_bad, ↓run_ite, ↓run_iteo, ↓run_of, ↓fin_ret, ↓fin_next, ↓finX_eq, ↓run_mbad, slot, rds, AV.rd, Own.simple, sv, Prim.run, Prim.ints, fzv, newl, outs, asgP, setAll, tupV, ownT, lstV, itemV, seqOf, lstOf, intOf, p_add, p_sub, p_mul, p_mod, p_fdiv, p_pow, p_neg, p_lt, p_le, p_gt, p_ge, p_isNone, p_notNone, p_idx, p_slLo, p_slHi, p_len, p_tuple, p_list, p_max2, p_min2, p_abs, p_int_, D.flat, passA, backA, takeA, frzA, List.getElem?_cons_zero, List.getElem?_cons_succ, Option.bind_some, Option.bind_none, id_eq, ↓reduceIte, List.map_cons, List.map_nil, List.cons_append, List.nil_append, List.replicate, List.set_cons_zero, List.set_cons_succ, and_true, true_and, and_self, eq_self, List.length_cons, List.length_nil, Nat.reduceAdd, Nat.reduceLeDiff, Nat.reduceLT, Bool.true_eq_false, Bool.false_eq_true, decide_true, decide_false, if_true, if_false, decide_eq_true_eq, Bool.and_eq_true, Bool.or_eq_true, List.all_cons, List.all_nil, Bool.and_true, Bool.and_self, at0, at1, at2, in_2, p_ne, se_add_add, se_add_less, se_add_zero, se_add_if, se_add_while, se_add_beside, se_less_add, se_less_less, se_less_zero, se_less_if, se_less_while, se_less_beside, se_zero_add, se_zero_less, se_zero_zero, se_zero_if, se_zero_while, se_zero_beside, se_if_add, se_if_less, se_if_zero, se_if_if, se_if_while, se_if_beside, se_while_add, se_while_less, se_while_zero, se_while_if, se_while_while, se_while_beside, se_beside_add, se_beside_less, se_beside_zero, se_beside_if, se_beside_while, se_beside_beside, ss_add_less, ss_add_zero, ss_add_if, ss_add_while, ss_add_beside, ss_less_add, ss_less_zero, ss_less_if, ss_less_while, ss_less_beside, ss_zero_add, ss_zero_less, ss_zero_if, ss_zero_while, ss_zero_beside, ss_if_add, ss_if_less, ss_if_zero, ss_if_while, ss_if_beside, ss_while_add, ss_while_less, ss_while_zero, ss_while_if, ss_while_beside, ss_beside_add, ss_beside_less, ss_beside_zero, ss_beside_if, ss_beside_while, big]
  | beside x y => simp [Row.enc, Row.own, intsD, fd_own_units, ↓rE_cst, ↓rE_glb, ↓rE_var, ↓rE_mov, ↓rE_tup, ↓rE_lst, ↓rE_op, ↓rE_ife, ↓rE_and, ↓rE_or, ↓rE_not, ↓rE_chain, ↓rE_call, ↓rE_mth, ↓rE_comp, ↓rE_dsp, ↓rO_var, ↓rO_op, ↓rO_cst, ↓rO_glb, ↓rO_mov, ↓rO_tup, ↓rO_lst, ↓rO_ife, ↓rO_and, ↓rO_or, ↓rO_not, ↓rO_chain, ↓rO_mth, ↓rO_call, ↓rO_comp, ↓rO_dsp, ↓rA_nil, ↓rA_cons, ↓rL_nil, ↓rL_cons, ↓rT_and, ↓rT_or, ↓rT_not, ↓rT_var, ↓rT_op, ↓rT_chain, ↓rT_call, ↓rT_cst, ↓rT_ife, ↓rI_seq, ↓rI_rng1, ↓rI_zip, ↓rB_nil, ↓rB_cons, ↓rS_asg, ↓rS_par, ↓rS_ex, ↓rS_ret, ↓rS_retN, ↓rS_iff, ↓rS_for, ↓rS_whl, ↓rS_rse, ↓rS_app, ↓rS_ext, ↓rS_sub, ↓run_pure, ↓run_bind, ↓run_ok, ↓run_exn, ↓run_bad, ↓r_getV, ↓got_some, ↓got_none, ↓got_map, ↓got_ite, ↓kB_bl, ↓gets_fz, ↓gets_un, ↓gets_tu, ↓movs_fz, ↓movs_un, ↓movs_tu, ↓next_next, ↓next_ret, ↓next_brk, ↓next_cnt, ↓ret_ret, ↓ret_exn, ↓ret_bad, ↓run_ite, ↓run_iteo, ↓run_of, ↓fin_ret, ↓fin_next, ↓finX_eq, ↓run_mbad, slot, rds, AV.rd, Own.simple, sv, Prim.run, Prim.ints, fzv, newl, outs, asgP, setAll, tupV, ownT, lstV, itemV, seqOf, lstOf, intOf, p_add, p_sub, p_mul, p_mod, p_fdiv, p_pow, p_neg, p_lt, p_le, p_gt, p_ge, p_isNone, p_notNone, p_idx, p_slLo, p_slHi, p_len, p_tuple, p_list, p_max2, p_min2, p_abs, p_int_, D.flat, passA, backA, takeA, frzA, List.getElem?_cons_zero, List.getElem?_cons_succ, Option.bind_some, Option.bind_none, id_eq, ↓reduceIte, List.map_cons, List.map_nil, List.cons_append, List.nil_append, List.replicate, List.set_cons_zero, List.set_cons_succ, and_true, true_and, and_self, eq_self, List.length_cons, List.length_nil, Nat.reduceAdd, Nat.reduceLeDiff, Nat.reduceLT, Bool.true_eq_false, Bool.false_eq_true, decide_true, decide_false, if_true, if_false, decide_eq_true_eq, Bool.and_eq_true, Bool.or_eq_true, List.all_cons, List.all_nil, Bool.and_true, Bool.and_self, at0, at1, at2, in_2, p_ne, se_add_add, se_add_less, se_add_zero, se_add_if, se_add_while, se_add_beside, se_less_add, se_less_less, se_less_zero, se_less_if, se_less_while, se_less_beside, se_zero_add, se_zero_less, se_zero_zero, se_zero_if, se_zero_while, se_zero_beside, se_if_add, se_if_less, se_if_zero, se_if_if, se_if_while, se_if_beside, se_while_add, se_while_less, se_while_zero, se_while_if, se_while_while, se_while_beside, se_beside_add, se_beside_less, se_beside_zero, se_beside_if, se_beside_while, se_beside_beside, ss_add_less, ss_add_zero, ss_add_if, ss_add_while, ss_add_beside, ss_less_add, ss_less_zero, ss_less_if, ss_less_while, ss_less_beside, ss_zero_add, ss_zero_less, ss_zero_if, ss_zero_while, ss_zero_beside, ss_if_add, ss_if_less, ss_if_zero, ss_if_while, ss_if_beside, ss_while_add, ss_while_less, ss_while_zero, ss_while_if, ss_while_beside, ss_beside_add, ss_beside_less, ss_beside_zero, ss_beside_if, ss_beside_while, big]
theorem inner_cle {r : Row} {x : Rows} (h : x ∈ r.inner) : x.cnt ≤ r.cnt := by
  cases r with
  | sum _ _ _ _ => exact (List.not_mem_nil h).elim
  | zero _ => exact (List.not_mem_nil h).elim
  | iff a y z =>
    rw [Row.inner] at h
    rw [Row.cnt]
    simp only [List.mem_cons, List.not_mem_nil, or_false] at h
    rcases h with rfl | rfl <;> omega
  | whl a y =>
    rw [Row.inner] at h
    rw [Row.cnt]
    simp only [List.mem_cons, List.not_mem_nil, or_false] at h
    rcases h with rfl; omega
  | beside y z =>
    rw [Row.inner] at h
    rw [Row.cnt]
    simp only [List.mem_cons, List.not_mem_nil, or_false] at h
    rcases h with rfl | rfl <;> omega
theorem units_in_step {P : Prg} (h : HasSub P) (N : Nat) (rs : Rows) (hc : rs.cnt ≤ 1000) (ih : ∀ x : Rows, x.dep + 1 ≤ rs.dep → x.cnt ≤ 1000 → callF P (N + 1) "units_in" [(.tup x.encs, .fz)] = .ret (.lst (intsD x.units), .un .fz) []) : callF P (N + 2) "units_in" [(.tup rs.encs, .fz)] = .ret (.lst (intsD rs.units), .un .fz) [] := by
  refine Ret.eq (call_run h.uin rfl ?_)
  have hul := Rows.units_len rs
  simp only [fd_units_in, ↓rE_cst, ↓rE_glb, ↓rE_var, ↓rE_mov, ↓rE_tup, ↓rE_lst, ↓rE_op, ↓rE_ife, ↓rE_and, ↓rE_or, ↓rE_not, ↓rE_chain, ↓rE_call, ↓rE_mth, ↓rE_comp, ↓rE_dsp, ↓rO_var, ↓rO_op, ↓rO_cst, ↓rO_glb, ↓rO_mov, ↓rO_tup, ↓rO_lst, ↓rO_ife, ↓rO_and, ↓rO_or, ↓rO_not, ↓rO_chain, ↓rO_mth, ↓rO_call, ↓rO_comp, ↓rO_dsp, ↓rA_nil, ↓rA_cons, ↓rL_nil, ↓rL_cons, ↓rT_and, ↓rT_or, ↓rT_not, ↓rT_var, ↓rT_op, ↓rT_chain, ↓rT_call, ↓rT_cst, ↓rT_ife, ↓rI_seq, ↓rI_rng1, ↓rI_zip, ↓rB_nil, ↓rB_cons, ↓rS_asg, ↓rS_par, ↓rS_ex, ↓rS_ret, ↓rS_retN, ↓rS_iff, ↓rS_for, ↓rS_whl, ↓rS_rse, ↓rS_app, ↓rS_ext, ↓rS_sub, ↓run_pure, ↓run_bind, ↓run_ok, ↓run_exn, ↓run_bad, ↓r_getV, ↓got_some, ↓got_none, ↓got_map, ↓got_ite, ↓kB_bl, ↓gets_fz, ↓gets_un, ↓gets_tu, ↓movs_fz, ↓movs_un, ↓movs_tu, ↓next_next, ↓next_ret, ↓next_brk, ↓next_cnt, ↓ret_ret, ↓ret_exn, ↓ret_bad, ↓run_ite, ↓run_iteo, ↓run_of, ↓fin_ret, ↓fin_next, ↓finX_eq, ↓run_mbad, slot, rds, AV.rd, Own.simple, sv, Prim.run, Prim.ints, fzv, newl, outs, asgP, setAll, tupV, ownT, lstV, itemV, seqOf, lstOf, intOf, p_add, p_sub, p_mul, p_mod, p_fdiv, p_pow, p_neg, p_lt, p_le, p_gt, p_ge, p_isNone, p_notNone, p_idx, p_slLo, p_slHi, p_len, p_tuple, p_list, p_max2, p_min2, p_abs, p_int_, D.flat, passA, backA, takeA, frzA, List.getElem?_cons_zero, List.getElem?_cons_succ, Option.bind_some, Option.bind_none, id_eq, ↓reduceIte, List.map_cons, List.map_nil, List.cons_append, List.nil_append, List.replicate, List.set_cons_zero, List.set_cons_succ, and_true, true_and, and_self, eq_self, List.length_cons, List.length_nil, Nat.reduceAdd, Nat.reduceLeDiff, Nat.reduceLT, Bool.true_eq_false, Bool.false_eq_true, decide_true, decide_false, if_true, if_false, decide_eq_true_eq, Bool.and_eq_true, Bool.or_eq_true, List.all_cons, List.all_nil, Bool.and_true, Bool.and_self]
  refine ⟨by decide, ?_⟩
  refine run_for (fun r τ => ∃ (x y : Option Val) (rr : Rows) (ms : List Int), τ = [some (.tup rs.encs, .fz), some (.lst (intsD ms), .un .fz), x, y] ∧ r = rr.encs ∧ rr.dep ≤ rs.dep ∧ rr.cnt ≤ 1000 ∧ ms ++ rr.units = rs.units) ?_ ?_ _ _ ⟨none, none, rs, [], rfl, rfl, Nat.le_refl _, hc, rfl⟩
  · rintro d rest τ ⟨x, y, rr, ms, rfl, hr, hd, hcr, hm⟩
    cases rr with
    | nil => rw [Rows.encs] at hr; cases hr
    | cons row rr =>
      rw [Rows.encs] at hr
      cases hr
      rw [Rows.dep] at hd
      rw [Rows.cnt] at hcr
      rw [Rows.units, units_own] at hm
      have ei := inner_of h N row
      have eo := own_units h N row
      have hml : ms.length + row.own.length ≤ rs.units.length := by rw [← hm]; simp <;> omega
      have hml' : (intsD ms).length + (intsD row.own).length ≤ big := by unfold intsD big; simp; omega
      simp only [↓rE_cst, ↓rE_glb, ↓rE_var, ↓rE_mov, ↓rE_tup, ↓rE_lst, ↓rE_op, ↓rE_ife, ↓rE_and, ↓rE_or, ↓rE_not, ↓rE_chain, ↓rE_call, ↓rE_mth, ↓rE_comp, ↓rE_dsp, ↓rO_var, ↓rO_op, ↓rO_cst, ↓rO_glb, ↓rO_mov, ↓rO_tup, ↓rO_lst, ↓rO_ife, ↓rO_and, ↓rO_or, ↓rO_not, ↓rO_chain, ↓rO_mth, ↓rO_call, ↓rO_comp, ↓rO_dsp, ↓rA_nil, ↓rA_cons, ↓rL_nil, ↓rL_cons, ↓rT_and, ↓rT_or, ↓rT_not, ↓rT_var, ↓rT_op, ↓rT_chain, ↓rT_call, ↓rT_cst, ↓rT_ife, ↓rI_seq, ↓rI_rng1, ↓rI_zip, ↓rB_nil, ↓rB_cons, ↓rS_asg, ↓rS_par, ↓rS_ex, ↓rS_ret, ↓rS_retN, ↓rS_iff, ↓rS_for, ↓rS_whl, ↓rS_rse, ↓rS_app, ↓rS_ext, ↓rS_sub, ↓run_pure, ↓run_bind, ↓run_ok, ↓run_exn, ↓run_bad, ↓r_getV, ↓got_some, ↓got_none, ↓got_map, ↓got_ite, ↓kB_bl, ↓gets_fz, ↓gets_un, ↓gets_tu, ↓movs_fz, ↓movs_un, ↓movs_tu, ↓next_next, ↓next_ret, ↓next_brk, ↓next_cnt, ↓ret_ret, ↓ret_exn, ↓ret_bad, ↓run_ite, ↓run_iteo, ↓run_of, ↓fin_ret, ↓fin_next, ↓finX_eq, ↓run_mbad, slot, rds, AV.rd, Own.simple, sv, Prim.run, Prim.ints, fzv, newl, outs, asgP, setAll, tupV, ownT, lstV, itemV, seqOf, lstOf, intOf, p_add, p_sub, p_mul, p_mod, p_fdiv, p_pow, p_neg, p_lt, p_le, p_gt, p_ge, p_isNone, p_notNone, p_idx, p_slLo, p_slHi, p_len, p_tuple, p_list, p_max2, p_min2, p_abs, p_int_, D.flat, passA, backA, takeA, frzA, List.getElem?_cons_zero, List.getElem?_cons_succ, Option.bind_some, Option.bind_none, id_eq, ↓reduceIte, List.map_cons, List.map_nil, List.cons_append, List.nil_append, List.replicate, List.set_cons_zero, List.set_cons_succ, and_true, true_and, and_self, eq_self, List.length_cons, List.length_nil, Nat.reduceAdd, Nat.reduceLeDiff, Nat.reduceLT, Bool.true_eq_false, Bool.false_eq_true, decide_true, decide_false, if_true, if_false, decide_eq_true_eq, Bool.and_eq_true, Bool.or_eq_true, List.all_cons, List.all_nil, Bool.and_true, Bool.and_self, ↓run_callG h.own, ↓io_own_units, eo]
      refine ⟨⟨_, _, rfl⟩, intsD ms, rfl, hml', ?_⟩
      simp only [↓rE_cst, ↓rE_glb, ↓rE_var, ↓rE_mov, ↓rE_tup, ↓rE_lst, ↓rE_op, ↓rE_ife, ↓rE_and, ↓rE_or, ↓rE_not, ↓rE_chain, ↓rE_call, ↓rE_mth, ↓rE_comp, ↓rE_dsp, ↓rO_var, ↓rO_op, ↓rO_cst, ↓rO_glb, ↓rO_mov, ↓rO_tup, ↓rO_lst, ↓rO_ife, ↓rO_and, ↓rO_or, ↓rO_not, ↓rO_chain, ↓rO_mth, ↓rO_call, ↓rO_comp, ↓rO_dsp, ↓rA_nil, ↓rA_cons, ↓rL_nil, ↓rL_cons, ↓rT_and, ↓rT_or, ↓rT_not, ↓rT_var, ↓rT_op, ↓rT_chain, ↓rT_call, ↓rT_cst, ↓rT_ife, ↓rI_seq, ↓rI_rng1, ↓rI_zip, ↓rB_nil, ↓rB_cons, ↓rS_asg, ↓rS_par, ↓rS_ex, ↓rS_ret, ↓rS_retN, ↓rS_iff, ↓rS_for, ↓rS_whl, ↓rS_rse, ↓rS_app, ↓rS_ext, ↓rS_sub, ↓run_pure, ↓run_bind, ↓run_ok, ↓run_exn, ↓run_bad, ↓r_getV, ↓got_some, ↓got_none, ↓got_map, ↓got_ite, ↓kB_bl, ↓gets_fz, ↓gets_un, ↓gets_tu, ↓movs_fz, ↓movs_un, ↓movs_tu, ↓next_next, ↓next_ret, ↓next_brk, ↓next_cnt, ↓ret_ret, ↓ret_exn, ↓ret_bad, ↓run_ite, ↓run_iteo, ↓run_of, ↓fin_ret, ↓fin_next, ↓finX_eq, ↓run_mbad, slot, rds, AV.rd, Own.simple, sv, Prim.run, Prim.ints, fzv, newl, outs, asgP, setAll, tupV, ownT, lstV, itemV, seqOf, lstOf, intOf, p_add, p_sub, p_mul, p_mod, p_fdiv, p_pow, p_neg, p_lt, p_le, p_gt, p_ge, p_isNone, p_notNone, p_idx, p_slLo, p_slHi, p_len, p_tuple, p_list, p_max2, p_min2, p_abs, p_int_, D.flat, passA, backA, takeA, frzA, List.getElem?_cons_zero, List.getElem?_cons_succ, Option.bind_some, Option.bind_none, id_eq, ↓reduceIte, List.map_cons, List.map_nil, List.cons_append, List.nil_append, List.replicate, List.set_cons_zero, List.set_cons_succ, and_true, true_and, and_self, eq_self, List.length_cons, List.length_nil, Nat.reduceAdd, Nat.reduceLeDiff, Nat.reduceLT, Bool.true_eq_false, Bool.false_eq_true, decide_true, decide_false, if_true, if_false, decide_eq_true_eq, Bool.and_eq_true, Bool.or_eq_true, List.all_cons, List.all_nil, Bool.and_true, Bool.and_self, ↓run_callG h.inner, ↓io_inner_of, ei]
      refine run_for (fun r τ => ∃ (y : Option Val) (l : List Rows) (ks : List Int), τ = [some (.tup rs.encs, .fz), some (.lst (intsD ks), .un .fz), some (row.enc, .fz), y] ∧ r = l.map encT ∧ (∀ x ∈ l, x.dep + 1 ≤ rs.dep ∧ x.cnt ≤ 1000) ∧ ks ++ ((l.map Rows.units).flatten ++ rr.units) = rs.units) ?_ ?_ _ _ ⟨y, row.inner, ms ++ row.own, ?_, rfl, ?_, ?_⟩
      · rintro d rest τ ⟨y, l, ks, rfl, hr, hl, hk⟩
        cases l with
        | nil => cases hr
        | cons z l =>
          cases hr
          have ez := ih z (hl z List.mem_cons_self).1 (hl z List.mem_cons_self).2
          have hkl : ks.length + z.units.length ≤ rs.units.length := by rw [← hk]; simp <;> omega
          have hkl' : (intsD ks).length + (intsD z.units).length ≤ big := by unfold intsD big; simp; omega
          simp only [encT, ↓rE_cst, ↓rE_glb, ↓rE_var, ↓rE_mov, ↓rE_tup, ↓rE_lst, ↓rE_op, ↓rE_ife, ↓rE_and, ↓rE_or, ↓rE_not, ↓rE_chain, ↓rE_call, ↓rE_mth, ↓rE_comp, ↓rE_dsp, ↓rO_var, ↓rO_op, ↓rO_cst, ↓rO_glb, ↓rO_mov, ↓rO_tup, ↓rO_lst, ↓rO_ife, ↓rO_and, ↓rO_or, ↓rO_not, ↓rO_chain, ↓rO_mth, ↓rO_call, ↓rO_comp, ↓rO_dsp, ↓rA_nil, ↓rA_cons, ↓rL_nil, ↓rL_cons, ↓rT_and, ↓rT_or, ↓rT_not, ↓rT_var, ↓rT_op, ↓rT_chain, ↓rT_call, ↓rT_cst, ↓rT_ife, ↓rI_seq, ↓rI_rng1, ↓rI_zip, ↓rB_nil, ↓rB_cons, ↓rS_asg, ↓rS_par, ↓rS_ex, ↓rS_ret, ↓rS_retN, ↓rS_iff, ↓rS_for, ↓rS_whl, ↓rS_rse, ↓rS_app, ↓rS_ext, ↓rS_sub, ↓run_pure, ↓run_bind, ↓run_ok, ↓run_exn, ↓run_bad, ↓r_getV, ↓got_some, ↓got_none, ↓got_map, ↓got_ite, ↓kB_bl, ↓gets_fz, ↓gets_un, ↓gets_tu, ↓movs_fz, ↓movs_un, ↓movs_tu, ↓next_next, ↓next_ret, ↓next_brk, ↓next_cnt, ↓ret_ret, ↓ret_exn, ↓ret_bad, ↓run_ite, ↓run_iteo, ↓run_of, ↓fin_ret, ↓fin_next, ↓finX_eq, ↓run_mbad, slot, rds, AV.rd, Own.simple, sv, Prim.run, Prim.ints, fzv, newl, outs, asgP, setAll, tupV, ownT, lstV, itemV, seqOf, lstOf, intOf, p_add, p_sub, p_mul, p_mod, p_fdiv, p_pow, p_neg, p_lt, p_le, p_gt, p_ge, p_isNone, p_notNone, p_idx, p_slLo, p_slHi, p_len, p_tuple, p_list, p_max2, p_min2, p_abs, p_int_, D.flat, passA, backA, takeA, frzA, List.getElem?_cons_zero, List.getElem?_cons_succ, Option.bind_some, Option.bind_none, id_eq, ↓reduceIte, List.map_cons, List.map_nil, List.cons_append, List.nil_append, List.replicate, List.set_cons_zero, List.set_cons_succ, and_true, true_and, and_self, eq_self, List.length_cons, List.length_nil, Nat.reduceAdd, Nat.reduceLeDiff, Nat.reduceLT, Bool.true_eq_false, Bool.false_eq_true, decide_true, decide_false, if_true, if_false, decide_eq_true_eq, Bool.and_eq_true, Bool.or_eq_true, List.all_cons, List.all_nil, Bool.and_true, Bool.and_self, ↓run_callG h.uin, ↓io_units_in, ez]
          refine ⟨⟨_, _, rfl⟩, intsD ks, rfl, hkl', ?_⟩
          refine ⟨_, l, ks ++ z.units, by unfold intsD; rw [List.map_append], rfl, fun x hx => hl x (List.mem_cons_of_mem _ hx), ?_⟩
          rw [← hk]; simp
      · rintro τ ⟨y, l, ks, rfl, hr, hl, hk⟩
        have el : l = [] := by
          cases l with
          | nil => rfl
          | cons _ _ => cases hr
        subst el
        simp only [↓rE_cst, ↓rE_glb, ↓rE_var, ↓rE_mov, ↓rE_tup, ↓rE_lst, ↓rE_op, ↓rE_ife, ↓rE_and, ↓rE_or, ↓rE_not, ↓rE_chain, ↓rE_call, ↓rE_mth, ↓rE_comp, ↓rE_dsp, ↓rO_var, ↓rO_op, ↓rO_cst, ↓rO_glb, ↓rO_mov, ↓rO_tup, ↓rO_lst, ↓rO_ife, ↓rO_and, ↓rO_or, ↓rO_not, ↓rO_chain, ↓rO_mth, ↓rO_call, ↓rO_comp, ↓rO_dsp, ↓rA_nil, ↓rA_cons, ↓rL_nil, ↓rL_cons, ↓rT_and, ↓rT_or, ↓rT_not, ↓rT_var, ↓rT_op, ↓rT_chain, ↓rT_call, ↓rT_cst, ↓rT_ife, ↓rI_seq, ↓rI_rng1, ↓rI_zip, ↓rB_nil, ↓rB_cons, ↓rS_asg, ↓rS_par, ↓rS_ex, ↓rS_ret, ↓rS_retN, ↓rS_iff, ↓rS_for, ↓rS_whl, ↓rS_rse, ↓rS_app, ↓rS_ext, ↓rS_sub, ↓run_pure, ↓run_bind, ↓run_ok, ↓run_exn, ↓run_bad, ↓r_getV, ↓got_some, ↓got_none, ↓got_map, ↓got_ite, ↓kB_bl, ↓gets_fz, ↓gets_un, ↓gets_tu, ↓movs_fz, ↓movs_un, ↓movs_tu, ↓next_next, ↓next_ret, ↓next_brk, ↓next_cnt, ↓ret_ret, ↓ret_exn, ↓ret_bad, ↓run_ite, ↓run_iteo, ↓run_of, ↓fin_ret, ↓fin_next, ↓finX_eq, ↓run_mbad, slot, rds, AV.rd, Own.simple, sv, Prim.run, Prim.ints, fzv, newl, outs, asgP, setAll, tupV, ownT, lstV, itemV, seqOf, lstOf, intOf, p_add, p_sub, p_mul, p_mod, p_fdiv, p_pow, p_neg, p_lt, p_le, p_gt, p_ge, p_isNone, p_notNone, p_idx, p_slLo, p_slHi, p_len, p_tuple, p_list, p_max2, p_min2, p_abs, p_int_, D.flat, passA, backA, takeA, frzA, List.getElem?_cons_zero, List.getElem?_cons_succ, Option.bind_some, Option.bind_none, id_eq, ↓reduceIte, List.map_cons, List.map_nil, List.cons_append, List.nil_append, List.replicate, List.set_cons_zero, List.set_cons_succ, and_true, true_and, and_self, eq_self, List.length_cons, List.length_nil, Nat.reduceAdd, Nat.reduceLeDiff, Nat.reduceLT, Bool.true_eq_false, Bool.false_eq_true, decide_true, decide_false, if_true, if_false, decide_eq_true_eq, Bool.and_eq_true, Bool.or_eq_true, List.all_cons, List.all_nil, Bool.and_true, Bool.and_self]
        exact ⟨_, _, rr, ks, rfl, rfl, by omega, by omega, by simpa using hk⟩
      · unfold intsD; simp only [List.map_append]
      · intro x hx
        have := inner_dep hx
        have := inner_cle hx
        omega
      · rw [← hm]; simp
  · rintro τ ⟨x, y, rr, ms, rfl, hr, hd, hcr, hm⟩
    cases rr with
    | cons row rr => rw [Rows.encs] at hr; cases hr
    | nil =>
      rw [Rows.units, List.append_nil] at hm
      subst hm
      simp only [↓rE_cst, ↓rE_glb, ↓rE_var, ↓rE_mov, ↓rE_tup, ↓rE_lst, ↓rE_op, ↓rE_ife, ↓rE_and, ↓rE_or, ↓rE_not, ↓rE_chain, ↓rE_call, ↓rE_mth, ↓rE_comp, ↓rE_dsp, ↓rO_var, ↓rO_op, ↓rO_cst, ↓rO_glb, ↓rO_mov, ↓rO_tup, ↓rO_lst, ↓rO_ife, ↓rO_and, ↓rO_or, ↓rO_not, ↓rO_chain, ↓rO_mth, ↓rO_call, ↓rO_comp, ↓rO_dsp, ↓rA_nil, ↓rA_cons, ↓rL_nil, ↓rL_cons, ↓rT_and, ↓rT_or, ↓rT_not, ↓rT_var, ↓rT_op, ↓rT_chain, ↓rT_call, ↓rT_cst, ↓rT_ife, ↓rI_seq, ↓rI_rng1, ↓rI_zip, ↓rB_nil, ↓rB_cons, ↓rS_asg, ↓rS_par, ↓rS_ex, ↓rS_ret, ↓rS_retN, ↓rS_iff, ↓rS_for, ↓rS_whl, ↓rS_rse, ↓rS_app, ↓rS_ext, ↓rS_sub, ↓run_pure, ↓run_bind, ↓run_ok, ↓run_exn, ↓run_bad, ↓r_getV, ↓got_some, ↓got_none, ↓got_map, ↓got_ite, ↓kB_bl, ↓gets_fz, ↓gets_un, ↓gets_tu, ↓movs_fz, ↓movs_un, ↓movs_tu, ↓next_next, ↓next_ret, ↓next_brk, ↓next_cnt, ↓ret_ret, ↓ret_exn, ↓ret_bad, ↓run_ite, ↓run_iteo, ↓run_of, ↓fin_ret, ↓fin_next, ↓finX_eq, ↓run_mbad, slot, rds, AV.rd, Own.simple, sv, Prim.run, Prim.ints, fzv, newl, outs, asgP, setAll, tupV, ownT, lstV, itemV, seqOf, lstOf, intOf, p_add, p_sub, p_mul, p_mod, p_fdiv, p_pow, p_neg, p_lt, p_le, p_gt, p_ge, p_isNone, p_notNone, p_idx, p_slLo, p_slHi, p_len, p_tuple, p_list, p_max2, p_min2, p_abs, p_int_, D.flat, passA, backA, takeA, frzA, List.getElem?_cons_zero, List.getElem?_cons_succ, Option.bind_some, Option.bind_none, id_eq, ↓reduceIte, List.map_cons, List.map_nil, List.cons_append, List.nil_append, List.replicate, List.set_cons_zero, List.set_cons_succ, and_true, true_and, and_self, eq_self, List.length_cons, List.length_nil, Nat.reduceAdd, Nat.reduceLeDiff, Nat.reduceLT, Bool.true_eq_false, Bool.false_eq_true, decide_true, decide_false, if_true, if_false, decide_eq_true_eq, Bool.and_eq_true, Bool.or_eq_true, List.all_cons, List.all_nil, Bool.and_true, Bool.and_self]
theorem units_in {P : Prg} (h : HasSub P) : ∀ (D0 N : Nat) (rs : Rows), rs.dep ≤ D0 → D0 + 2 ≤ N → rs.cnt ≤ 1000 → callF P N "units_in" [(.tup rs.encs, .fz)] = .ret (.lst (intsD rs.units), .un .fz) []
  | 0, N, rs, hd, hN, hc => by
    obtain ⟨N, rfl⟩ : ∃ M, N = M + 2 := ⟨N - 2, by omega⟩
    exact units_in_step h N rs hc fun x hx _ => absurd hx (by omega)
  | D0 + 1, N, rs, hd, hN, hc => by
    obtain ⟨N, rfl⟩ : ∃ M, N = M + 2 := ⟨N - 2, by omega⟩
    exact units_in_step h N rs hc fun x hx hx' => units_in h D0 (N + 1) x (by omega) (by omega) hx'
end Py

set_option Elab.async false
set_option linter.all false
set_option maxRecDepth 100000
set_option maxHeartbeats 4000000
namespace Py
open PySem
def bls (bs : List Bool) : List D := bs.map D.bl
theorem bls_bools? : ∀ ms : List Bool, D.bools? (bls ms) = some ms
  | [] => rfl
  | m :: ms => by
    show D.bools? (.bl m :: bls ms) = _
    rw [D.bools?, bls_bools? ms]; rfl
mutual
def Row.ok (d : Nat) : Row → Prop
  | .sum _ a b m => 1 ≤ d ∧ (0 ≤ a ∧ a ≤ 5) ∧ (0 ≤ b ∧ b ≤ 5) ∧ a ≠ b ∧ 1 ≤ m ∧ m ≤ 9
  | .zero a => 1 ≤ d ∧ 0 ≤ a ∧ a ≤ 5
  | .iff a x y => 1 ≤ d ∧ (0 ≤ a ∧ a ≤ 5) ∧ x.ok (d - 1) ∧ y.ok (d - 1)
  | .whl a x => 1 ≤ d ∧ (0 ≤ a ∧ a ≤ 5) ∧ x.ok (d - 1)
  | .beside x y => 1 ≤ d ∧ x.ok (d - 1) ∧ y.ok (d - 1) ∧ (1 ≤ x.len ∨ 1 ≤ y.len) ∧ ∀ u ∈ x.units, u ∉ y.units
def Rows.ok (d : Nat) : Rows → Prop
  | .nil => True
  | .cons r rs => r.ok d ∧ rs.ok d
end
mutual
theorem Row.ok_dep : ∀ (r : Row) (d : Nat), r.ok d → r.dep ≤ d
  | .sum _ _ _ _, d, h => by rw [Row.ok] at h; rw [Row.dep]; omega
  | .zero _, d, h => by rw [Row.ok] at h; rw [Row.dep]; omega
  | .iff a x y, d, h => by
    rw [Row.ok] at h
    have h1 := Rows.ok_dep x (d - 1) h.2.2.1
    have h2 := Rows.ok_dep y (d - 1) h.2.2.2
    have := h.1
    rw [Row.dep]
    omega
  | .whl a x, d, h => by
    rw [Row.ok] at h
    have h1 := Rows.ok_dep x (d - 1) h.2.2
    have := h.1
    rw [Row.dep]
    omega
  | .beside x y, d, h => by
    rw [Row.ok] at h
    have h1 := Rows.ok_dep x (d - 1) h.2.1
    have h2 := Rows.ok_dep y (d - 1) h.2.2.1
    have := h.1
    rw [Row.dep]
    omega
theorem Rows.ok_dep : ∀ (r : Rows) (d : Nat), r.ok d → r.dep ≤ d
  | .nil, d, h => by rw [Rows.dep]; omega
  | .cons r rs, d, h => by
    rw [Rows.ok] at h
    have h1 := Row.ok_dep r d h.1
    have h2 := Rows.ok_dep rs d h.2
    rw [Rows.dep]
    omega
end
theorem pl_add : (D.str "add").plain = true := by decide +kernel
theorem pl_less : (D.str "less").plain = true := by decide +kernel
theorem pl_zero : (D.str "zero").plain = true := by decide +kernel
theorem pl_if : (D.str "if").plain = true := by decide +kernel
theorem pl_while : (D.str "while").plain = true := by decide +kernel
theorem pl_beside : (D.str "beside").plain = true := by decide +kernel
theorem pl_int (i : Int) : (D.int i).plain = true := by rw [D.plain]
mutual
theorem Row.plain : ∀ r : Row, r.enc.plain = true
  | .sum false a b m => by rw [Row.enc, D.plain]; simp only [D.plains, pl_add, pl_int, Bool.and_self, Bool.and_true]
  | .sum true a b m => by rw [Row.enc, D.plain]; simp only [D.plains, pl_less, pl_int, Bool.and_self, Bool.and_true]
  | .zero a => by rw [Row.enc, D.plain]; simp only [D.plains, pl_zero, pl_int, Bool.and_self, Bool.and_true]
  | .iff a x y => by
    have h1 := Rows.plain x
    have h2 := Rows.plain y
    rw [Row.enc, D.plain]; simp only [D.plains, pl_if, pl_int, Bool.and_self, Bool.and_true, Bool.true_and]
    rw [D.plain, D.plain, h1, h2]; rfl
  | .whl a x => by
    have h1 := Rows.plain x
    rw [Row.enc, D.plain]; simp only [D.plains, pl_while, pl_int, Bool.and_self, Bool.and_true, Bool.true_and]
    rw [D.plain, h1]
  | .beside x y => by
    have h1 := Rows.plain x
    have h2 := Rows.plain y
    rw [Row.enc, D.plain]; simp only [D.plains, pl_beside, pl_int, Bool.and_self, Bool.and_true, Bool.true_and]
    rw [D.plain, D.plain, h1, h2]; rfl
theorem Rows.plain : ∀ r : Rows, D.plains r.encs = true
  | .nil => by rw [Rows.encs, D.plains]
  | .cons r rs => by
    have h1 := Row.plain r
    have h2 := Rows.plain rs
    rw [Rows.encs, D.plains, h1, h2]; rfl
end
theorem eq_nil {ds : List D} (h : D.plains ds = true) : (D.tup ds).eq? (.tup []) = some (decide (ds = [])) := by
  unfold D.eq?
  rw [D.plain, h, D.plain, D.plains]
  rw [if_pos]
  · cases ds <;> simp [D.eqv, D.eqvs]
  · simp [D.depth, D.depths]
theorem encs_nil (rs : Rows) : rs.encs = [] ↔ rs.len = 0 := by
  cases rs <;> simp [Rows.encs, Rows.len]
theorem in_ints (u : Int) (ys : List Int) : p_in_ [.int u, .lst (intsD ys)] = some (.bl (decide (u ∈ ys)), .fz) := by
  rw [p_in_, ints_flat]
  simp only [D.flat, Bool.and_self, if_true, fzv]
  congr 3
  unfold intsD
  rw [List.any_map]
  induction ys with
  | nil => simp
  | cons y ys ih =>
    rw [List.any_cons, ih]
    simp only [Function.comp, D.eqv, List.mem_cons]
    by_cases c : u = y
    · subst c; simp
    · have c' : ¬ y = u := fun e => c e.symm
      simp [c, c']
theorem is_apart {P : Prg} (h : HasSub P) (D0 N : Nat) (x y : Rows) (hx : x.dep ≤ D0) (hy : y.dep ≤ D0) (hN : D0 + 3 ≤ N) (cx : x.cnt ≤ 1000) (cy : y.cnt ≤ 1000) (hl : 1 ≤ x.len ∨ 1 ≤ y.len) (hd : ∀ u ∈ x.units, u ∉ y.units) :
    callF P N "is_apart" [((Row.beside x y).enc, .fz)] = .ret (.bl true, .fz) [] := by
  obtain ⟨N, rfl⟩ : ∃ M, N = M + 1 := ⟨N - 1, by omega⟩
  refine Ret.eq (call_run h.apart rfl ?_)
  have e1 := units_in h D0 N x hx (by omega) cx
  have e2 := units_in h D0 N y hy (by omega) cy
  have n1 := eq_nil (Rows.plain x)
  have n2 := eq_nil (Rows.plain y)
  simp only [Row.enc, fd_is_apart, ↓rE_cst, ↓rE_glb, ↓rE_var, ↓rE_mov, ↓rE_tup, ↓rE_lst, ↓rE_op, ↓rE_ife, ↓rE_and, ↓rE_or, ↓rE_not, ↓rE_chain, ↓rE_call, ↓rE_mth, ↓rE_comp, ↓rE_dsp, ↓rO_var, ↓rO_op, ↓rO_cst, ↓rO_glb, ↓rO_mov, ↓rO_tup, ↓rO_lst, ↓rO_ife, ↓rO_and, ↓rO_or, ↓rO_not, ↓rO_chain, ↓rO_mth, ↓rO_call, ↓rO_comp, ↓rO_dsp, ↓rA_nil, ↓rA_cons, ↓rL_nil, ↓rL_cons, ↓rT_and, ↓rT_or, ↓rT_not, ↓rT_var, ↓rT_op, ↓rT_chain, ↓rT_call, ↓rT_cst, ↓rT_ife, ↓rI_seq, ↓rI_rng1, ↓rI_zip, ↓rB_nil, ↓rB_cons, ↓rS_asg, ↓rS_par, ↓rS_ex, ↓rS_ret, ↓rS_retN, ↓rS_iff, ↓rS_for, ↓rS_whl, ↓rS_rse, ↓rS_app, ↓rS_ext, ↓rS_sub, ↓run_pure, ↓run_bind, ↓run_ok, ↓run_exn, ↓run_bad, ↓r_getV, ↓got_some, ↓got_none, ↓got_map, ↓got_ite, ↓kB_bl, ↓gets_fz, ↓gets_un, ↓gets_tu, ↓movs_fz, ↓movs_un, ↓movs_tu, ↓next_next, ↓next_ret, ↓next_brk, ↓next_cnt, ↓ret_ret, ↓ret_exn, ↓ret_bad, ↓run_ite, ↓run_iteo, ↓run_of, ↓fin_ret, ↓fin_next, ↓finX_eq, ↓run_mbad, slot, rds, AV.rd, Own.simple, sv, Prim.run, Prim.ints, fzv, newl, outs, asgP, setAll, tupV, ownT, lstV, itemV, seqOf, lstOf, intOf, p_add, p_sub, p_mul, p_mod, p_fdiv, p_pow, p_neg, p_lt, p_le, p_gt, p_ge, p_isNone, p_notNone, p_idx, p_slLo, p_slHi, p_len, p_tuple, p_list, p_max2, p_min2, p_abs, p_int_, D.flat, passA, backA, takeA, frzA, List.getElem?_cons_zero, List.getElem?_cons_succ, Option.bind_some, Option.bind_none, id_eq, ↓reduceIte, List.map_cons, List.map_nil, List.cons_append, List.nil_append, List.replicate, List.set_cons_zero, List.set_cons_succ, and_true, true_and, and_self, eq_self, List.length_cons, List.length_nil, Nat.reduceAdd, Nat.reduceLeDiff, Nat.reduceLT, Bool.true_eq_false, Bool.false_eq_true, decide_true, decide_false, if_true, if_false, decide_eq_true_eq, Bool.and_eq_true, Bool.or_eq_true, List.all_cons, List.all_nil, Bool.and_true, Bool.and_self, at1, at2, ↓run_callG h.uin, ↓io_units_in, e1, e2, reduceCtorEq, Bool.false_and, p_ne, n1, n2, Option.map_some]
  refine ⟨by decide, ?_⟩
  have key : ∀ (Q : Val → Fr → Prop) (E : Str → Fr → Prop), (∀ bs : List Bool, (bs.any id = false) → Q (.lst (bls bs), .un .fz) [some (.tup [.str "beside", .tup x.encs, .tup y.encs], .fz), some (.lst (intsD x.units), .fz), some (.lst (intsD y.units), .un .fz), none]) → Run (compM (M.pure (intsD x.units)) (evC (P.cfg (callF P N)) .none) (evE (P.cfg (callF P N)) (.op .in_ (.cons (.var 3) (.cons (.var 2) .nil)))) .fz [3] (.nm 3) [some (.tup [.str "beside", .tup x.encs, .tup y.encs], .fz), some (.lst (intsD x.units), .fz), some (.lst (intsD y.units), .un .fz), none]) Q E := by
    intro Q E hQ
    refine run_comp (fun r acc τ => ∃ (us : List Int) (bs : List Bool), τ = [some (.tup [.str "beside", .tup x.encs, .tup y.encs], .fz), some (.lst (intsD x.units), .fz), some (.lst (intsD y.units), .un .fz), none] ∧ r = intsD us ∧ acc = bls bs ∧ (∀ u ∈ us, u ∉ y.units) ∧ ∀ b ∈ bs, b = false) ?_ ?_ ?_
    · simp only [wipeF, clr, ↓rE_cst, ↓rE_glb, ↓rE_var, ↓rE_mov, ↓rE_tup, ↓rE_lst, ↓rE_op, ↓rE_ife, ↓rE_and, ↓rE_or, ↓rE_not, ↓rE_chain, ↓rE_call, ↓rE_mth, ↓rE_comp, ↓rE_dsp, ↓rO_var, ↓rO_op, ↓rO_cst, ↓rO_glb, ↓rO_mov, ↓rO_tup, ↓rO_lst, ↓rO_ife, ↓rO_and, ↓rO_or, ↓rO_not, ↓rO_chain, ↓rO_mth, ↓rO_call, ↓rO_comp, ↓rO_dsp, ↓rA_nil, ↓rA_cons, ↓rL_nil, ↓rL_cons, ↓rT_and, ↓rT_or, ↓rT_not, ↓rT_var, ↓rT_op, ↓rT_chain, ↓rT_call, ↓rT_cst, ↓rT_ife, ↓rI_seq, ↓rI_rng1, ↓rI_zip, ↓rB_nil, ↓rB_cons, ↓rS_asg, ↓rS_par, ↓rS_ex, ↓rS_ret, ↓rS_retN, ↓rS_iff, ↓rS_for, ↓rS_whl, ↓rS_rse, ↓rS_app, ↓rS_ext, ↓rS_sub, ↓run_pure, ↓run_bind, ↓run_ok, ↓run_exn, ↓run_bad, ↓r_getV, ↓got_some, ↓got_none, ↓got_map, ↓got_ite, ↓kB_bl, ↓gets_fz, ↓gets_un, ↓gets_tu, ↓movs_fz, ↓movs_un, ↓movs_tu, ↓next_next, ↓next_ret, ↓next_brk, ↓next_cnt, ↓ret_ret, ↓ret_exn, ↓ret_bad, ↓run_ite, ↓run_iteo, ↓run_of, ↓fin_ret, ↓fin_next, ↓finX_eq, ↓run_mbad, slot, rds, AV.rd, Own.simple, sv, Prim.run, Prim.ints, fzv, newl, outs, asgP, setAll, tupV, ownT, lstV, itemV, seqOf, lstOf, intOf, p_add, p_sub, p_mul, p_mod, p_fdiv, p_pow, p_neg, p_lt, p_le, p_gt, p_ge, p_isNone, p_notNone, p_idx, p_slLo, p_slHi, p_len, p_tuple, p_list, p_max2, p_min2, p_abs, p_int_, D.flat, passA, backA, takeA, frzA, List.getElem?_cons_zero, List.getElem?_cons_succ, Option.bind_some, Option.bind_none, id_eq, ↓reduceIte, List.map_cons, List.map_nil, List.cons_append, List.nil_append, List.replicate, List.set_cons_zero, List.set_cons_succ, and_true, true_and, and_self, eq_self, List.length_cons, List.length_nil, Nat.reduceAdd, Nat.reduceLeDiff, Nat.reduceLT, Bool.true_eq_false, Bool.false_eq_true, decide_true, decide_false, if_true, if_false, decide_eq_true_eq, Bool.and_eq_true, Bool.or_eq_true, List.all_cons, List.all_nil, Bool.and_true, Bool.and_self]
      exact ⟨x.units, [], rfl, rfl, hd, fun b hb => (List.not_mem_nil hb).elim⟩
    · rintro d rest acc τ ⟨us, bs, rfl, hr, rfl, h1, h2⟩
      cases us with
      | nil => cases hr
      | cons u us =>
        cases hr
        simp only [↓rE_cst, ↓rE_glb, ↓rE_var, ↓rE_mov, ↓rE_tup, ↓rE_lst, ↓rE_op, ↓rE_ife, ↓rE_and, ↓rE_or, ↓rE_not, ↓rE_chain, ↓rE_call, ↓rE_mth, ↓rE_comp, ↓rE_dsp, ↓rO_var, ↓rO_op, ↓rO_cst, ↓rO_glb, ↓rO_mov, ↓rO_tup, ↓rO_lst, ↓rO_ife, ↓rO_and, ↓rO_or, ↓rO_not, ↓rO_chain, ↓rO_mth, ↓rO_call, ↓rO_comp, ↓rO_dsp, ↓rA_nil, ↓rA_cons, ↓rL_nil, ↓rL_cons, ↓rT_and, ↓rT_or, ↓rT_not, ↓rT_var, ↓rT_op, ↓rT_chain, ↓rT_call, ↓rT_cst, ↓rT_ife, ↓rI_seq, ↓rI_rng1, ↓rI_zip, ↓rB_nil, ↓rB_cons, ↓rS_asg, ↓rS_par, ↓rS_ex, ↓rS_ret, ↓rS_retN, ↓rS_iff, ↓rS_for, ↓rS_whl, ↓rS_rse, ↓rS_app, ↓rS_ext, ↓rS_sub, ↓run_pure, ↓run_bind, ↓run_ok, ↓run_exn, ↓run_bad, ↓r_getV, ↓got_some, ↓got_none, ↓got_map, ↓got_ite, ↓kB_bl, ↓gets_fz, ↓gets_un, ↓gets_tu, ↓movs_fz, ↓movs_un, ↓movs_tu, ↓next_next, ↓next_ret, ↓next_brk, ↓next_cnt, ↓ret_ret, ↓ret_exn, ↓ret_bad, ↓run_ite, ↓run_iteo, ↓run_of, ↓fin_ret, ↓fin_next, ↓finX_eq, ↓run_mbad, slot, rds, AV.rd, Own.simple, sv, Prim.run, Prim.ints, fzv, newl, outs, asgP, setAll, tupV, ownT, lstV, itemV, seqOf, lstOf, intOf, p_add, p_sub, p_mul, p_mod, p_fdiv, p_pow, p_neg, p_lt, p_le, p_gt, p_ge, p_isNone, p_notNone, p_idx, p_slLo, p_slHi, p_len, p_tuple, p_list, p_max2, p_min2, p_abs, p_int_, D.flat, passA, backA, takeA, frzA, List.getElem?_cons_zero, List.getElem?_cons_succ, Option.bind_some, Option.bind_none, id_eq, ↓reduceIte, List.map_cons, List.map_nil, List.cons_append, List.nil_append, List.replicate, List.set_cons_zero, List.set_cons_succ, and_true, true_and, and_self, eq_self, List.length_cons, List.length_nil, Nat.reduceAdd, Nat.reduceLeDiff, Nat.reduceLT, Bool.true_eq_false, Bool.false_eq_true, decide_true, decide_false, if_true, if_false, decide_eq_true_eq, Bool.and_eq_true, Bool.or_eq_true, List.all_cons, List.all_nil, Bool.and_true, Bool.and_self, evC, in_ints, clr]
        refine ⟨us, bs ++ [false], rfl, ?_, fun v hv => h1 v (List.mem_cons_of_mem _ hv), ?_⟩
        · unfold bls; rw [List.map_append]
          have := h1 u List.mem_cons_self
          simp [this]
        · intro b hb
          rcases List.mem_append.mp hb with z | z
          · exact h2 b z
          · exact List.mem_singleton.mp z
    · rintro xs τ ⟨us, bs, rfl, hr, rfl, h1, h2⟩
      simp only [putBack, ↓rE_cst, ↓rE_glb, ↓rE_var, ↓rE_mov, ↓rE_tup, ↓rE_lst, ↓rE_op, ↓rE_ife, ↓rE_and, ↓rE_or, ↓rE_not, ↓rE_chain, ↓rE_call, ↓rE_mth, ↓rE_comp, ↓rE_dsp, ↓rO_var, ↓rO_op, ↓rO_cst, ↓rO_glb, ↓rO_mov, ↓rO_tup, ↓rO_lst, ↓rO_ife, ↓rO_and, ↓rO_or, ↓rO_not, ↓rO_chain, ↓rO_mth, ↓rO_call, ↓rO_comp, ↓rO_dsp, ↓rA_nil, ↓rA_cons, ↓rL_nil, ↓rL_cons, ↓rT_and, ↓rT_or, ↓rT_not, ↓rT_var, ↓rT_op, ↓rT_chain, ↓rT_call, ↓rT_cst, ↓rT_ife, ↓rI_seq, ↓rI_rng1, ↓rI_zip, ↓rB_nil, ↓rB_cons, ↓rS_asg, ↓rS_par, ↓rS_ex, ↓rS_ret, ↓rS_retN, ↓rS_iff, ↓rS_for, ↓rS_whl, ↓rS_rse, ↓rS_app, ↓rS_ext, ↓rS_sub, ↓run_pure, ↓run_bind, ↓run_ok, ↓run_exn, ↓run_bad, ↓r_getV, ↓got_some, ↓got_none, ↓got_map, ↓got_ite, ↓kB_bl, ↓gets_fz, ↓gets_un, ↓gets_tu, ↓movs_fz, ↓movs_un, ↓movs_tu, ↓next_next, ↓next_ret, ↓next_brk, ↓next_cnt, ↓ret_ret, ↓ret_exn, ↓ret_bad, ↓run_ite, ↓run_iteo, ↓run_of, ↓fin_ret, ↓fin_next, ↓finX_eq, ↓run_mbad, slot, rds, AV.rd, Own.simple, sv, Prim.run, Prim.ints, fzv, newl, outs, asgP, setAll, tupV, ownT, lstV, itemV, seqOf, lstOf, intOf, p_add, p_sub, p_mul, p_mod, p_fdiv, p_pow, p_neg, p_lt, p_le, p_gt, p_ge, p_isNone, p_notNone, p_idx, p_slLo, p_slHi, p_len, p_tuple, p_list, p_max2, p_min2, p_abs, p_int_, D.flat, passA, backA, takeA, frzA, List.getElem?_cons_zero, List.getElem?_cons_succ, Option.bind_some, Option.bind_none, id_eq, ↓reduceIte, List.map_cons, List.map_nil, List.cons_append, List.nil_append, List.replicate, List.set_cons_zero, List.set_cons_succ, and_true, true_and, and_self, eq_self, List.length_cons, List.length_nil, Nat.reduceAdd, Nat.reduceLeDiff, Nat.reduceLT, Bool.true_eq_false, Bool.false_eq_true, decide_true, decide_false, if_true, if_false, decide_eq_true_eq, Bool.and_eq_true, Bool.or_eq_true, List.all_cons, List.all_nil, Bool.and_true, Bool.and_self]
      refine hQ bs ?_
      rw [List.any_eq_false]
      intro b hb
      rw [h2 b hb]; decide
  have fin : ∀ bs : List Bool, bs.any id = false → Got (p_any_ [.lst (bls bs)]) fun v => kB v fun c => (D.bl !c, Own.fz) = (D.bl true, Own.fz) := by
    intro bs hb
    simp only [p_any_, bls_bools?, Option.map_some, got_some, kB_bl, hb]; rfl
  refine ⟨by decide, ?_⟩
  have fin' : ∀ bs : List Bool, bs.any id = false → Got (p_any_ [.lst (bls bs)]) fun v => kB v fun c => Got (outs [false] [some (.tup [.str "beside", .tup x.encs, .tup y.encs], .fz), some (.lst (intsD x.units), .fz), some (.lst (intsD y.units), .un .fz), none]) fun vs => (D.bl !c, Own.fz) = (D.bl true, Own.fz) ∧ vs = [] := by
    intro bs hb
    simp only [p_any_, bls_bools?, Option.map_some, got_some, kB_bl, hb]
    exact ⟨rfl, rfl⟩
  split
  · exact key _ _ fun bs hb => fin' bs hb
  · rename_i c1
    refine ⟨by decide, ?_⟩
    split
    · exact key _ _ fun bs hb => fin' bs hb
    · rename_i c2
      exfalso
      simp only [Bool.not_eq_true, Bool.not_eq_false', decide_eq_true_eq, encs_nil] at c1 c2
      omega
end Py

set_option Elab.async false
set_option linter.all false
set_option maxRecDepth 100000
set_option maxHeartbeats 4000000
namespace Py
open PySem
def IsRowOk (P : Prg) (d : Nat) : Prop := ∀ (N : Nat) (r : Row), 2 * d + 4 ≤ N → r.cnt ≤ 1000 → r.ok d → callF P N "is_row" [(r.enc, .fz), (.int d, .fz)] = .ret (.bl true, .fz) []
def AreRowsOk (P : Prg) (d : Nat) : Prop := ∀ (N : Nat) (r : Rows), 2 * d + 5 ≤ N → r.cnt ≤ 1000 → r.ok d → callF P N "are_rows" [(.tup r.encs, .fz), (.int d, .fz)] = .ret (.bl true, .fz) []
theorem are_of_is {P : Prg} (h : HasSub P) {d : Nat} (hr : IsRowOk P d) : AreRowsOk P d := by
  intro N rs hN hc ho
  obtain ⟨N, rfl⟩ : ∃ M, N = M + 1 := ⟨N - 1, by omega⟩
  refine Ret.eq (call_run h.arer rfl ?_)
  simp only [fd_are_rows, ↓rE_cst, ↓rE_glb, ↓rE_var, ↓rE_mov, ↓rE_tup, ↓rE_lst, ↓rE_op, ↓rE_ife, ↓rE_and, ↓rE_or, ↓rE_not, ↓rE_chain, ↓rE_call, ↓rE_mth, ↓rE_comp, ↓rE_dsp, ↓rO_var, ↓rO_op, ↓rO_cst, ↓rO_glb, ↓rO_mov, ↓rO_tup, ↓rO_lst, ↓rO_ife, ↓rO_and, ↓rO_or, ↓rO_not, ↓rO_chain, ↓rO_mth, ↓rO_call, ↓rO_comp, ↓rO_dsp, ↓rA_nil, ↓rA_cons, ↓rL_nil, ↓rL_cons, ↓rT_and, ↓rT_or, ↓rT_not, ↓rT_var, ↓rT_op, ↓rT_chain, ↓rT_call, ↓rT_cst, ↓rT_ife, ↓rI_seq, ↓rI_rng1, ↓rI_zip, ↓rB_nil, ↓rB_cons, ↓rS_asg, ↓rS_par, ↓rS_ex, ↓rS_ret, ↓rS_retN, ↓rS_iff, ↓rS_for, ↓rS_whl, ↓rS_rse, ↓rS_app, ↓rS_ext, ↓rS_sub, ↓run_pure, ↓run_bind, ↓run_ok, ↓run_exn, ↓run_bad, ↓r_getV, ↓got_some, ↓got_none, ↓got_map, ↓got_ite, ↓kB_bl, ↓gets_fz, ↓gets_un, ↓gets_tu, ↓movs_fz, ↓movs_un, ↓movs_tu, ↓next_next, ↓next_ret, ↓next_brk, ↓next_cnt, ↓ret_ret, ↓ret_exn, ↓ret_bad, ↓run_ite, ↓run_iteo, ↓run_of, ↓fin_ret, ↓fin_next, ↓finX_eq, ↓run_mbad, slot, rds, AV.rd, Own.simple, sv, Prim.run, Prim.ints, fzv, newl, outs, asgP, setAll, tupV, ownT, lstV, itemV, seqOf, lstOf, intOf, p_add, p_sub, p_mul, p_mod, p_fdiv, p_pow, p_neg, p_lt, p_le, p_gt, p_ge, p_isNone, p_notNone, p_idx, p_slLo, p_slHi, p_len, p_tuple, p_list, p_max2, p_min2, p_abs, p_int_, D.flat, passA, backA, takeA, frzA, List.getElem?_cons_zero, List.getElem?_cons_succ, Option.bind_some, Option.bind_none, id_eq, ↓reduceIte, List.map_cons, List.map_nil, List.cons_append, List.nil_append, List.replicate, List.set_cons_zero, List.set_cons_succ, and_true, true_and, and_self, eq_self, List.length_cons, List.length_nil, Nat.reduceAdd, Nat.reduceLeDiff, Nat.reduceLT, Bool.true_eq_false, Bool.false_eq_true, decide_true, decide_false, if_true, if_false, decide_eq_true_eq, Bool.and_eq_true, Bool.or_eq_true, List.all_cons, List.all_nil, Bool.and_true, Bool.and_self, p_isTuple]
  refine run_comp (fun r acc τ => τ = [some (.tup rs.encs, .fz), some (.int d, .fz), none] ∧ ∃ (rr : Rows) (bs : List Bool), r = rr.encs ∧ rr.cnt ≤ 1000 ∧ rr.ok d ∧ acc = bls bs ∧ ∀ b ∈ bs, b = true) ?_ ?_ ?_
  · simp only [wipeF, clr, ↓rE_cst, ↓rE_glb, ↓rE_var, ↓rE_mov, ↓rE_tup, ↓rE_lst, ↓rE_op, ↓rE_ife, ↓rE_and, ↓rE_or, ↓rE_not, ↓rE_chain, ↓rE_call, ↓rE_mth, ↓rE_comp, ↓rE_dsp, ↓rO_var, ↓rO_op, ↓rO_cst, ↓rO_glb, ↓rO_mov, ↓rO_tup, ↓rO_lst, ↓rO_ife, ↓rO_and, ↓rO_or, ↓rO_not, ↓rO_chain, ↓rO_mth, ↓rO_call, ↓rO_comp, ↓rO_dsp, ↓rA_nil, ↓rA_cons, ↓rL_nil, ↓rL_cons, ↓rT_and, ↓rT_or, ↓rT_not, ↓rT_var, ↓rT_op, ↓rT_chain, ↓rT_call, ↓rT_cst, ↓rT_ife, ↓rI_seq, ↓rI_rng1, ↓rI_zip, ↓rB_nil, ↓rB_cons, ↓rS_asg, ↓rS_par, ↓rS_ex, ↓rS_ret, ↓rS_retN, ↓rS_iff, ↓rS_for, ↓rS_whl, ↓rS_rse, ↓rS_app, ↓rS_ext, ↓rS_sub, ↓run_pure, ↓run_bind, ↓run_ok, ↓run_exn, ↓run_bad, ↓r_getV, ↓got_some, ↓got_none, ↓got_map, ↓got_ite, ↓kB_bl, ↓gets_fz, ↓gets_un, ↓gets_tu, ↓movs_fz, ↓movs_un, ↓movs_tu, ↓next_next, ↓next_ret, ↓next_brk, ↓next_cnt, ↓ret_ret, ↓ret_exn, ↓ret_bad, ↓run_ite, ↓run_iteo, ↓run_of, ↓fin_ret, ↓fin_next, ↓finX_eq, ↓run_mbad, slot, rds, AV.rd, Own.simple, sv, Prim.run, Prim.ints, fzv, newl, outs, asgP, setAll, tupV, ownT, lstV, itemV, seqOf, lstOf, intOf, p_add, p_sub, p_mul, p_mod, p_fdiv, p_pow, p_neg, p_lt, p_le, p_gt, p_ge, p_isNone, p_notNone, p_idx, p_slLo, p_slHi, p_len, p_tuple, p_list, p_max2, p_min2, p_abs, p_int_, D.flat, passA, backA, takeA, frzA, List.getElem?_cons_zero, List.getElem?_cons_succ, Option.bind_some, Option.bind_none, id_eq, ↓reduceIte, List.map_cons, List.map_nil, List.cons_append, List.nil_append, List.replicate, List.set_cons_zero, List.set_cons_succ, and_true, true_and, and_self, eq_self, List.length_cons, List.length_nil, Nat.reduceAdd, Nat.reduceLeDiff, Nat.reduceLT, Bool.true_eq_false, Bool.false_eq_true, decide_true, decide_false, if_true, if_false, decide_eq_true_eq, Bool.and_eq_true, Bool.or_eq_true, List.all_cons, List.all_nil, Bool.and_true, Bool.and_self]
    exact ⟨rs, [], rfl, hc, ho, rfl, fun b hb => (List.not_mem_nil hb).elim⟩
  · rintro x r acc τ ⟨rfl, rr, bs, hr', hc', ho', rfl, hb⟩
    cases rr with
    | nil => rw [Rows.encs] at hr'; cases hr'
    | cons row rr =>
      rw [Rows.encs] at hr'
      cases hr'
      rw [Rows.cnt] at hc'
      rw [Rows.ok] at ho'
      have e := hr N row (by omega) (by omega) ho'.1
      simp only [↓rE_cst, ↓rE_glb, ↓rE_var, ↓rE_mov, ↓rE_tup, ↓rE_lst, ↓rE_op, ↓rE_ife, ↓rE_and, ↓rE_or, ↓rE_not, ↓rE_chain, ↓rE_call, ↓rE_mth, ↓rE_comp, ↓rE_dsp, ↓rO_var, ↓rO_op, ↓rO_cst, ↓rO_glb, ↓rO_mov, ↓rO_tup, ↓rO_lst, ↓rO_ife, ↓rO_and, ↓rO_or, ↓rO_not, ↓rO_chain, ↓rO_mth, ↓rO_call, ↓rO_comp, ↓rO_dsp, ↓rA_nil, ↓rA_cons, ↓rL_nil, ↓rL_cons, ↓rT_and, ↓rT_or, ↓rT_not, ↓rT_var, ↓rT_op, ↓rT_chain, ↓rT_call, ↓rT_cst, ↓rT_ife, ↓rI_seq, ↓rI_rng1, ↓rI_zip, ↓rB_nil, ↓rB_cons, ↓rS_asg, ↓rS_par, ↓rS_ex, ↓rS_ret, ↓rS_retN, ↓rS_iff, ↓rS_for, ↓rS_whl, ↓rS_rse, ↓rS_app, ↓rS_ext, ↓rS_sub, ↓run_pure, ↓run_bind, ↓run_ok, ↓run_exn, ↓run_bad, ↓r_getV, ↓got_some, ↓got_none, ↓got_map, ↓got_ite, ↓kB_bl, ↓gets_fz, ↓gets_un, ↓gets_tu, ↓movs_fz, ↓movs_un, ↓movs_tu, ↓next_next, ↓next_ret, ↓next_brk, ↓next_cnt, ↓ret_ret, ↓ret_exn, ↓ret_bad, ↓run_ite, ↓run_iteo, ↓run_of, ↓fin_ret, ↓fin_next, ↓finX_eq, ↓run_mbad, slot, rds, AV.rd, Own.simple, sv, Prim.run, Prim.ints, fzv, newl, outs, asgP, setAll, tupV, ownT, lstV, itemV, seqOf, lstOf, intOf, p_add, p_sub, p_mul, p_mod, p_fdiv, p_pow, p_neg, p_lt, p_le, p_gt, p_ge, p_isNone, p_notNone, p_idx, p_slLo, p_slHi, p_len, p_tuple, p_list, p_max2, p_min2, p_abs, p_int_, D.flat, passA, backA, takeA, frzA, List.getElem?_cons_zero, List.getElem?_cons_succ, Option.bind_some, Option.bind_none, id_eq, ↓reduceIte, List.map_cons, List.map_nil, List.cons_append, List.nil_append, List.replicate, List.set_cons_zero, List.set_cons_succ, and_true, true_and, and_self, eq_self, List.length_cons, List.length_nil, Nat.reduceAdd, Nat.reduceLeDiff, Nat.reduceLT, Bool.true_eq_false, Bool.false_eq_true, decide_true, decide_false, if_true, if_false, decide_eq_true_eq, Bool.and_eq_true, Bool.or_eq_true, List.all_cons, List.all_nil, Bool.and_true, Bool.and_self, evC, ↓run_callG h.row, ↓io_is_row, e, clr]
      refine ⟨rr, bs ++ [true], rfl, by omega, ho'.2, by unfold bls; rw [List.map_append]; rfl, ?_⟩
      intro b hb'
      rcases List.mem_append.mp hb' with z | z
      · exact hb b z
      · exact List.mem_singleton.mp z
  · rintro xs τ ⟨rfl, rr, bs, hr', hc', ho', rfl, hb⟩
    have : bs.all id = true := by
      rw [List.all_eq_true]
      intro b hb'
      rw [hb b hb']; rfl
    simp only [putBack, ↓rE_cst, ↓rE_glb, ↓rE_var, ↓rE_mov, ↓rE_tup, ↓rE_lst, ↓rE_op, ↓rE_ife, ↓rE_and, ↓rE_or, ↓rE_not, ↓rE_chain, ↓rE_call, ↓rE_mth, ↓rE_comp, ↓rE_dsp, ↓rO_var, ↓rO_op, ↓rO_cst, ↓rO_glb, ↓rO_mov, ↓rO_tup, ↓rO_lst, ↓rO_ife, ↓rO_and, ↓rO_or, ↓rO_not, ↓rO_chain, ↓rO_mth, ↓rO_call, ↓rO_comp, ↓rO_dsp, ↓rA_nil, ↓rA_cons, ↓rL_nil, ↓rL_cons, ↓rT_and, ↓rT_or, ↓rT_not, ↓rT_var, ↓rT_op, ↓rT_chain, ↓rT_call, ↓rT_cst, ↓rT_ife, ↓rI_seq, ↓rI_rng1, ↓rI_zip, ↓rB_nil, ↓rB_cons, ↓rS_asg, ↓rS_par, ↓rS_ex, ↓rS_ret, ↓rS_retN, ↓rS_iff, ↓rS_for, ↓rS_whl, ↓rS_rse, ↓rS_app, ↓rS_ext, ↓rS_sub, ↓run_pure, ↓run_bind, ↓run_ok, ↓run_exn, ↓run_bad, ↓r_getV, ↓got_some, ↓got_none, ↓got_map, ↓got_ite, ↓kB_bl, ↓gets_fz, ↓gets_un, ↓gets_tu, ↓movs_fz, ↓movs_un, ↓movs_tu, ↓next_next, ↓next_ret, ↓next_brk, ↓next_cnt, ↓ret_ret, ↓ret_exn, ↓ret_bad, ↓run_ite, ↓run_iteo, ↓run_of, ↓fin_ret, ↓fin_next, ↓finX_eq, ↓run_mbad, slot, rds, AV.rd, Own.simple, sv, Prim.run, Prim.ints, fzv, newl, outs, asgP, setAll, tupV, ownT, lstV, itemV, seqOf, lstOf, intOf, p_add, p_sub, p_mul, p_mod, p_fdiv, p_pow, p_neg, p_lt, p_le, p_gt, p_ge, p_isNone, p_notNone, p_idx, p_slLo, p_slHi, p_len, p_tuple, p_list, p_max2, p_min2, p_abs, p_int_, D.flat, passA, backA, takeA, frzA, List.getElem?_cons_zero, List.getElem?_cons_succ, Option.bind_some, Option.bind_none, id_eq, ↓reduceIte, List.map_cons, List.map_nil, List.cons_append, List.nil_append, List.replicate, List.set_cons_zero, List.set_cons_succ, and_true, true_and, and_self, eq_self, List.length_cons, List.length_nil, Nat.reduceAdd, Nat.reduceLeDiff, Nat.reduceLT, Bool.true_eq_false, Bool.false_eq_true, decide_true, decide_false, if_true, if_false, decide_eq_true_eq, Bool.and_eq_true, Bool.or_eq_true, List.all_cons, List.all_nil, Bool.and_true, Bool.and_self, p_all_, bls_bools?, Option.map_some, this]
theorem inner_all {P : Prg} (h : HasSub P) {d : Nat} (ha : AreRowsOk P d) (N : Nat) (hN : 2 * d + 5 ≤ N) (t : D) (l : List Rows) (hl : ∀ x ∈ l, x.cnt ≤ 1000 ∧ x.ok d) {Q : Val → Fr → Prop} {E : Str → Fr → Prop}
    (hQ : ∀ bs : List Bool, bs.all id = true → Q (.lst (bls bs), .un .fz) [some (t, .fz), some (.int ((d + 1 : Nat) : Int), .fz), none]) :
    Run (compM (M.pure (l.map encT)) (evC (P.cfg (callF P N)) .none) (evE (P.cfg (callF P N)) (.call "are_rows" (.cons (.var 2) (.cons (.op .sub (.cons (.var 1) (.cons (.cst (.int 1)) .nil))) .nil)))) .fz [2] (.nm 2) [some (t, .fz), some (.int ((d + 1 : Nat) : Int), .fz), none]) Q E := by
  have dd : ((d + 1 : Nat) : Int) - 1 = d := by omega
  refine run_comp (fun r acc τ => τ = [some (t, .fz), some (.int ((d + 1 : Nat) : Int), .fz), none] ∧ ∃ (l : List Rows) (bs : List Bool), r = l.map encT ∧ (∀ x ∈ l, x.cnt ≤ 1000 ∧ x.ok d) ∧ acc = bls bs ∧ ∀ b ∈ bs, b = true) ?_ ?_ ?_
  · simp only [wipeF, clr, ↓rE_cst, ↓rE_glb, ↓rE_var, ↓rE_mov, ↓rE_tup, ↓rE_lst, ↓rE_op, ↓rE_ife, ↓rE_and, ↓rE_or, ↓rE_not, ↓rE_chain, ↓rE_call, ↓rE_mth, ↓rE_comp, ↓rE_dsp, ↓rO_var, ↓rO_op, ↓rO_cst, ↓rO_glb, ↓rO_mov, ↓rO_tup, ↓rO_lst, ↓rO_ife, ↓rO_and, ↓rO_or, ↓rO_not, ↓rO_chain, ↓rO_mth, ↓rO_call, ↓rO_comp, ↓rO_dsp, ↓rA_nil, ↓rA_cons, ↓rL_nil, ↓rL_cons, ↓rT_and, ↓rT_or, ↓rT_not, ↓rT_var, ↓rT_op, ↓rT_chain, ↓rT_call, ↓rT_cst, ↓rT_ife, ↓rI_seq, ↓rI_rng1, ↓rI_zip, ↓rB_nil, ↓rB_cons, ↓rS_asg, ↓rS_par, ↓rS_ex, ↓rS_ret, ↓rS_retN, ↓rS_iff, ↓rS_for, ↓rS_whl, ↓rS_rse, ↓rS_app, ↓rS_ext, ↓rS_sub, ↓run_pure, ↓run_bind, ↓run_ok, ↓run_exn, ↓run_bad, ↓r_getV, ↓got_some, ↓got_none, ↓got_map, ↓got_ite, ↓kB_bl, ↓gets_fz, ↓gets_un, ↓gets_tu, ↓movs_fz, ↓movs_un, ↓movs_tu, ↓next_next, ↓next_ret, ↓next_brk, ↓next_cnt, ↓ret_ret, ↓ret_exn, ↓ret_bad, ↓run_ite, ↓run_iteo, ↓run_of, ↓fin_ret, ↓fin_next, ↓finX_eq, ↓run_mbad, slot, rds, AV.rd, Own.simple, sv, Prim.run, Prim.ints, fzv, newl, outs, asgP, setAll, tupV, ownT, lstV, itemV, seqOf, lstOf, intOf, p_add, p_sub, p_mul, p_mod, p_fdiv, p_pow, p_neg, p_lt, p_le, p_gt, p_ge, p_isNone, p_notNone, p_idx, p_slLo, p_slHi, p_len, p_tuple, p_list, p_max2, p_min2, p_abs, p_int_, D.flat, passA, backA, takeA, frzA, List.getElem?_cons_zero, List.getElem?_cons_succ, Option.bind_some, Option.bind_none, id_eq, ↓reduceIte, List.map_cons, List.map_nil, List.cons_append, List.nil_append, List.replicate, List.set_cons_zero, List.set_cons_succ, and_true, true_and, and_self, eq_self, List.length_cons, List.length_nil, Nat.reduceAdd, Nat.reduceLeDiff, Nat.reduceLT, Bool.true_eq_false, Bool.false_eq_true, decide_true, decide_false, if_true, if_false, decide_eq_true_eq, Bool.and_eq_true, Bool.or_eq_true, List.all_cons, List.all_nil, Bool.and_true, Bool.and_self]
    exact ⟨l, [], rfl, hl, rfl, fun b hb => (List.not_mem_nil hb).elim⟩
  · rintro x r acc τ ⟨rfl, l, bs, hr, hl, rfl, hb⟩
    cases l with
    | nil => cases hr
    | cons y l =>
      cases hr
      have e := ha N y hN (hl y List.mem_cons_self).1 (hl y List.mem_cons_self).2
      simp only [encT, ↓rE_cst, ↓rE_glb, ↓rE_var, ↓rE_mov, ↓rE_tup, ↓rE_lst, ↓rE_op, ↓rE_ife, ↓rE_and, ↓rE_or, ↓rE_not, ↓rE_chain, ↓rE_call, ↓rE_mth, ↓rE_comp, ↓rE_dsp, ↓rO_var, ↓rO_op, ↓rO_cst, ↓rO_glb, ↓rO_mov, ↓rO_tup, ↓rO_lst, ↓rO_ife, ↓rO_and, ↓rO_or, ↓rO_not, ↓rO_chain, ↓rO_mth, ↓rO_call, ↓rO_comp, ↓rO_dsp, ↓rA_nil, ↓rA_cons, ↓rL_nil, ↓rL_cons, ↓rT_and, ↓rT_or, ↓rT_not, ↓rT_var, ↓rT_op, ↓rT_chain, ↓rT_call, ↓rT_cst, ↓rT_ife, ↓rI_seq, ↓rI_rng1, ↓rI_zip, ↓rB_nil, ↓rB_cons, ↓rS_asg, ↓rS_par, ↓rS_ex, ↓rS_ret, ↓rS_retN, ↓rS_iff, ↓rS_for, ↓rS_whl, ↓rS_rse, ↓rS_app, ↓rS_ext, ↓rS_sub, ↓run_pure, ↓run_bind, ↓run_ok, ↓run_exn, ↓run_bad, ↓r_getV, ↓got_some, ↓got_none, ↓got_map, ↓got_ite, ↓kB_bl, ↓gets_fz, ↓gets_un, ↓gets_tu, ↓movs_fz, ↓movs_un, ↓movs_tu, ↓next_next, ↓next_ret, ↓next_brk, ↓next_cnt, ↓ret_ret, ↓ret_exn, ↓ret_bad, ↓run_ite, ↓run_iteo, ↓run_of, ↓fin_ret, ↓fin_next, ↓finX_eq, ↓run_mbad, slot, rds, AV.rd, Own.simple, sv, Prim.run, Prim.ints, fzv, newl, outs, asgP, setAll, tupV, ownT, lstV, itemV, seqOf, lstOf, intOf, p_add, p_sub, p_mul, p_mod, p_fdiv, p_pow, p_neg, p_lt, p_le, p_gt, p_ge, p_isNone, p_notNone, p_idx, p_slLo, p_slHi, p_len, p_tuple, p_list, p_max2, p_min2, p_abs, p_int_, D.flat, passA, backA, takeA, frzA, List.getElem?_cons_zero, List.getElem?_cons_succ, Option.bind_some, Option.bind_none, id_eq, ↓reduceIte, List.map_cons, List.map_nil, List.cons_append, List.nil_append, List.replicate, List.set_cons_zero, List.set_cons_succ, and_true, true_and, and_self, eq_self, List.length_cons, List.length_nil, Nat.reduceAdd, Nat.reduceLeDiff, Nat.reduceLT, Bool.true_eq_false, Bool.false_eq_true, decide_true, decide_false, if_true, if_false, decide_eq_true_eq, Bool.and_eq_true, Bool.or_eq_true, List.all_cons, List.all_nil, Bool.and_true, Bool.and_self, evC, dd, ↓run_callG h.arer, ↓io_are_rows, e, clr]
      refine ⟨l, bs ++ [true], rfl, fun x hx => hl x (List.mem_cons_of_mem _ hx), by unfold bls; rw [List.map_append]; rfl, ?_⟩
      intro b hb'
      rcases List.mem_append.mp hb' with z | z
      · exact hb b z
      · exact List.mem_singleton.mp z
  · rintro xs τ ⟨rfl, l, bs, hr, hl, rfl, hb⟩
    simp only [putBack, ↓rE_cst, ↓rE_glb, ↓rE_var, ↓rE_mov, ↓rE_tup, ↓rE_lst, ↓rE_op, ↓rE_ife, ↓rE_and, ↓rE_or, ↓rE_not, ↓rE_chain, ↓rE_call, ↓rE_mth, ↓rE_comp, ↓rE_dsp, ↓rO_var, ↓rO_op, ↓rO_cst, ↓rO_glb, ↓rO_mov, ↓rO_tup, ↓rO_lst, ↓rO_ife, ↓rO_and, ↓rO_or, ↓rO_not, ↓rO_chain, ↓rO_mth, ↓rO_call, ↓rO_comp, ↓rO_dsp, ↓rA_nil, ↓rA_cons, ↓rL_nil, ↓rL_cons, ↓rT_and, ↓rT_or, ↓rT_not, ↓rT_var, ↓rT_op, ↓rT_chain, ↓rT_call, ↓rT_cst, ↓rT_ife, ↓rI_seq, ↓rI_rng1, ↓rI_zip, ↓rB_nil, ↓rB_cons, ↓rS_asg, ↓rS_par, ↓rS_ex, ↓rS_ret, ↓rS_retN, ↓rS_iff, ↓rS_for, ↓rS_whl, ↓rS_rse, ↓rS_app, ↓rS_ext, ↓rS_sub, ↓run_pure, ↓run_bind, ↓run_ok, ↓run_exn, ↓run_bad, ↓r_getV, ↓got_some, ↓got_none, ↓got_map, ↓got_ite, ↓kB_bl, ↓gets_fz, ↓gets_un, ↓gets_tu, ↓movs_fz, ↓movs_un, ↓movs_tu, ↓next_next, ↓next_ret, ↓next_brk, ↓next_cnt, ↓ret_ret, ↓ret_exn, ↓ret_bad, ↓run_ite, ↓run_iteo, ↓run_of, ↓fin_ret, ↓fin_next, ↓finX_eq, ↓run_mbad, slot, rds, AV.rd, Own.simple, sv, Prim.run, Prim.ints, fzv, newl, outs, asgP, setAll, tupV, ownT, lstV, itemV, seqOf, lstOf, intOf, p_add, p_sub, p_mul, p_mod, p_fdiv, p_pow, p_neg, p_lt, p_le, p_gt, p_ge, p_isNone, p_notNone, p_idx, p_slLo, p_slHi, p_len, p_tuple, p_list, p_max2, p_min2, p_abs, p_int_, D.flat, passA, backA, takeA, frzA, List.getElem?_cons_zero, List.getElem?_cons_succ, Option.bind_some, Option.bind_none, id_eq, ↓reduceIte, List.map_cons, List.map_nil, List.cons_append, List.nil_append, List.replicate, List.set_cons_zero, List.set_cons_succ, and_true, true_and, and_self, eq_self, List.length_cons, List.length_nil, Nat.reduceAdd, Nat.reduceLeDiff, Nat.reduceLT, Bool.true_eq_false, Bool.false_eq_true, decide_true, decide_false, if_true, if_false, decide_eq_true_eq, Bool.and_eq_true, Bool.or_eq_true, List.all_cons, List.all_nil, Bool.and_true, Bool.and_self]
    refine hQ bs ?_
    rw [List.all_eq_true]
    intro b hb'
    rw [hb b hb']; rfl
theorem is_of_are {P : Prg} (h : HasSub P) {d : Nat} (ha : AreRowsOk P d) : IsRowOk P (d + 1) := by
  intro N r hN hc ho
  obtain ⟨N, rfl⟩ : ∃ M, N = M + 6 := ⟨N - 6, by omega⟩
  refine Ret.eq (call_run h.row rfl ?_)
  have d0 : ¬ (((d + 1 : Nat) : Int) = 0) := by omega
  have en := fun (x : D) (xs : List D) (q : D.plains (x :: xs) = true) => eq_nil q
  have hp := Row.plain r
  cases r with
  | sum l a b m =>
    rw [Row.ok] at ho
    have e1 := is_sum_row h (N + 2) l a b m ho.2.1 ho.2.2.1 ho.2.2.2.1 ho.2.2.2.2
    cases l <;> (rw [Row.enc] at hp e1 ⊢; rw [D.plain] at hp; have n1 := eq_nil hp; simp [-Int.natCast_add, fd_is_row, ↓rE_cst, ↓rE_glb, ↓rE_var, ↓rE_mov, ↓rE_tup, ↓rE_lst, ↓rE_op, ↓rE_ife, ↓rE_and, ↓rE_or, ↓rE_not, ↓rE_chain, ↓rE_call, ↓rE_mth, ↓rE_comp, ↓rE_dsp, ↓rO_var, ↓rO_op, ↓rO_cst, ↓rO_glb, ↓rO_mov, ↓rO_tup, ↓rO_lst, ↓rO_ife, ↓rO_and, ↓rO_or, ↓rO_not, ↓rO_chain, ↓rO_mth, ↓rO_call, ↓rO_comp, ↓rO_dsp, ↓rA_nil, ↓rA_cons, ↓rL_nil, ↓rL_cons, ↓rT_and, ↓rT_or, ↓rT_not, ↓rT_var, ↓rT_op, ↓rT_chain, ↓rT_call, ↓rT_cst, ↓rT_ife, ↓rI_seq, ↓rI_rng1, ↓rI_zip, ↓rB_nil, ↓rB_cons, ↓rS_asg, ↓rS_par, ↓rS_ex, ↓rS_ret, ↓rS_retN, ↓rS_iff, ↓rS_for, ↓rS_whl, ↓rS_rse, ↓rS_app, ↓rS_ext, ↓rS_sub, ↓run_pure, ↓run_bind, ↓run_ok, ↓run_exn, ↓run_bad, ↓r_getV, ↓got_some, ↓got_none, ↓got_map, ↓got_ite, ↓kB_bl, ↓gets_fz, ↓gets_un, ↓gets_tu, ↓movs_fz, ↓movs_un, ↓movs_tu, ↓next_next, ↓next_ret, ↓next_brk, ↓next_cnt, ↓ret_ret, ↓ret_exn, ↓ret_bad, ↓run_ite, ↓run_iteo, ↓run_of, ↓fin_ret, ↓fin_next, ↓finX_eq, ↓run_mbad, slot, rds, AV.rd, Own.simple, sv, Prim.run, Prim.ints, fzv, newl, outs, asgP, setAll, tupV, ownT, lstV, itemV, seqOf, lstOf, intOf, p_add, p_sub, p_mul, p_mod, p_fdiv, p_pow, p_neg, p_lt, p_le, p_gt, p_ge, p_isNone, p_notNone, p_idx, p_slLo, p_slHi, p_len, p_tuple, p_list, p_max2, p_min2, p_abs, p_int_, D.flat, passA, backA, takeA, frzA, List.getElem?_cons_zero, List.getElem?_cons_succ, Option.bind_some, Option.bind_none, id_eq, ↓reduceIte, List.map_cons, List.map_nil, List.cons_append, List.nil_append, List.replicate, List.set_cons_zero, List.set_cons_succ, and_true, true_and, and_self, eq_self, List.length_cons, List.length_nil, Nat.reduceAdd, Nat.reduceLeDiff, Nat.reduceLT, Bool.true_eq_false, Bool.false_eq_true, decide_true, decide_false, if_true, if_false, decide_eq_true_eq, Bool.and_eq_true, Bool.or_eq_true, List.all_cons, List.all_nil, Bool.and_true, Bool.and_self, p_eq, eq_int, d0, p_isTuple, p_isStr, at0, n1, in_2, se_add_add, se_add_less, se_add_zero, se_add_if, se_add_while, se_add_beside, se_less_add, se_less_less, se_less_zero, se_less_if, se_less_while, se_less_beside, se_zero_add, se_zero_less, se_zero_zero, se_zero_if, se_zero_while, se_zero_beside, se_if_add, se_if_less, se_if_zero, se_if_if, se_if_while, se_if_beside, se_while_add, se_while_less, se_while_zero, se_while_if, se_while_while, se_while_beside, se_beside_add, se_beside_less, se_beside_zero, se_beside_if, se_beside_while, se_beside_beside, ss_add_less, ss_add_zero, ss_add_if, ss_add_while, ss_add_beside, ss_less_add, ss_less_zero, ss_less_if, ss_less_while, ss_less_beside, ss_zero_add, ss_zero_less, ss_zero_if, ss_zero_while, ss_zero_beside, ss_if_add, ss_if_less, ss_if_zero, ss_if_while, ss_if_beside, ss_while_add, ss_while_less, ss_while_zero, ss_while_if, ss_while_beside, ss_beside_add, ss_beside_less, ss_beside_zero, ss_beside_if, ss_beside_while, ↓run_callG h.sumr, ↓io_is_sum_row, e1, big])
  | zero a =>
    rw [Row.ok] at ho
    have e1 := is_unit h (N + 3) a
    rw [Row.enc] at hp ⊢
    rw [D.plain] at hp
    have n1 := eq_nil hp
    simp [-Int.natCast_add, fd_is_row, ↓rE_cst, ↓rE_glb, ↓rE_var, ↓rE_mov, ↓rE_tup, ↓rE_lst, ↓rE_op, ↓rE_ife, ↓rE_and, ↓rE_or, ↓rE_not, ↓rE_chain, ↓rE_call, ↓rE_mth, ↓rE_comp, ↓rE_dsp, ↓rO_var, ↓rO_op, ↓rO_cst, ↓rO_glb, ↓rO_mov, ↓rO_tup, ↓rO_lst, ↓rO_ife, ↓rO_and, ↓rO_or, ↓rO_not, ↓rO_chain, ↓rO_mth, ↓rO_call, ↓rO_comp, ↓rO_dsp, ↓rA_nil, ↓rA_cons, ↓rL_nil, ↓rL_cons, ↓rT_and, ↓rT_or, ↓rT_not, ↓rT_var, ↓rT_op, ↓rT_chain, ↓rT_call, ↓rT_cst, ↓rT_ife, ↓rI_seq, ↓rI_rng1, ↓rI_zip, ↓rB_nil, ↓rB_cons, ↓rS_asg, ↓rS_par, ↓rS_ex, ↓rS_ret, ↓rS_retN, ↓rS_iff, ↓rS_for, ↓rS_whl, ↓rS_rse, ↓rS_app, ↓rS_ext, ↓rS_sub, ↓run_pure, ↓run_bind, ↓run_ok, ↓run_exn, ↓run_bad, ↓r_getV, ↓got_some, ↓got_none, ↓got_map, ↓got_ite, ↓kB_bl, ↓gets_fz, ↓gets_un, ↓gets_tu, ↓movs_fz, ↓movs_un, ↓movs_tu, ↓next_next, ↓next_ret, ↓next_brk, ↓next_cnt, ↓ret_ret, ↓ret_exn, ↓ret_bad, ↓run_ite, ↓run_iteo, ↓run_of, ↓fin_ret, ↓fin_next, ↓finX_eq, ↓run_mbad, slot, rds, AV.rd, Own.simple, sv, Prim.run, Prim.ints, fzv, newl, outs, asgP, setAll, tupV, ownT, lstV, itemV, seqOf, lstOf, intOf, p_add, p_sub, p_mul, p_mod, p_fdiv, p_pow, p_neg, p_lt, p_le, p_gt, p_ge, p_isNone, p_notNone, p_idx, p_slLo, p_slHi, p_len, p_tuple, p_list, p_max2, p_min2, p_abs, p_int_, D.flat, passA, backA, takeA, frzA, List.getElem?_cons_zero, List.getElem?_cons_succ, Option.bind_some, Option.bind_none, id_eq, ↓reduceIte, List.map_cons, List.map_nil, List.cons_append, List.nil_append, List.replicate, List.set_cons_zero, List.set_cons_succ, and_true, true_and, and_self, eq_self, List.length_cons, List.length_nil, Nat.reduceAdd, Nat.reduceLeDiff, Nat.reduceLT, Bool.true_eq_false, Bool.false_eq_true, decide_true, decide_false, if_true, if_false, decide_eq_true_eq, Bool.and_eq_true, Bool.or_eq_true, List.all_cons, List.all_nil, Bool.and_true, Bool.and_self, p_eq, eq_int, d0, p_isTuple, p_isStr, at0, at1, n1, in_2, se_add_add, se_add_less, se_add_zero, se_add_if, se_add_while, se_add_beside, se_less_add, se_less_less, se_less_zero, se_less_if, se_less_while, se_less_beside, se_zero_add, se_zero_less, se_zero_zero, se_zero_if, se_zero_while, se_zero_beside, se_if_add, se_if_less, se_if_zero, se_if_if, se_if_while, se_if_beside, se_while_add, se_while_less, se_while_zero, se_while_if, se_while_while, se_while_beside, se_beside_add, se_beside_less, se_beside_zero, se_beside_if, se_beside_while, se_beside_beside, ss_add_less, ss_add_zero, ss_add_if, ss_add_while, ss_add_beside, ss_less_add, ss_less_zero, ss_less_if, ss_less_while, ss_less_beside, ss_zero_add, ss_zero_less, ss_zero_if, ss_zero_while, ss_zero_beside, ss_if_add, ss_if_less, ss_if_zero, ss_if_while, ss_if_beside, ss_while_add, ss_while_less, ss_while_zero, ss_while_if, ss_while_beside, ss_beside_add, ss_beside_less, ss_beside_zero, ss_beside_if, ss_beside_while, ↓run_callG h.unit, ↓io_is_unit, e1, big, ho.2.1, ho.2.2]
  | beside x y =>
    rw [Row.ok] at ho
    obtain ⟨_, ox, oy, ol, od⟩ := ho
    rw [Row.cnt] at hc
    have dx := Rows.ok_dep x _ ox
    have dy := Rows.ok_dep y _ oy
    have e1 := is_apart h d (N + 5) x y (by omega) (by omega) (by omega) (by omega) (by omega) ol od
    have e2 := ha (N + 5) x (by omega) (by omega) ox
    have e3 := ha (N + 5) y (by omega) (by omega) oy
    have e4 := inner_of h (N + 4) (.beside x y)
    rw [Row.enc] at hp e1 e4 ⊢
    rw [D.plain] at hp
    have n1 := eq_nil hp
    simp only [fd_is_row, ↓rE_cst, ↓rE_glb, ↓rE_var, ↓rE_mov, ↓rE_tup, ↓rE_lst, ↓rE_op, ↓rE_ife, ↓rE_and, ↓rE_or, ↓rE_not, ↓rE_chain, ↓rE_call, ↓rE_mth, ↓rE_comp, ↓rE_dsp, ↓rO_var, ↓rO_op, ↓rO_cst, ↓rO_glb, ↓rO_mov, ↓rO_tup, ↓rO_lst, ↓rO_ife, ↓rO_and, ↓rO_or, ↓rO_not, ↓rO_chain, ↓rO_mth, ↓rO_call, ↓rO_comp, ↓rO_dsp, ↓rA_nil, ↓rA_cons, ↓rL_nil, ↓rL_cons, ↓rT_and, ↓rT_or, ↓rT_not, ↓rT_var, ↓rT_op, ↓rT_chain, ↓rT_call, ↓rT_cst, ↓rT_ife, ↓rI_seq, ↓rI_rng1, ↓rI_zip, ↓rB_nil, ↓rB_cons, ↓rS_asg, ↓rS_par, ↓rS_ex, ↓rS_ret, ↓rS_retN, ↓rS_iff, ↓rS_for, ↓rS_whl, ↓rS_rse, ↓rS_app, ↓rS_ext, ↓rS_sub, ↓run_pure, ↓run_bind, ↓run_ok, ↓run_exn, ↓run_bad, ↓r_getV, ↓got_some, ↓got_none, ↓got_map, ↓got_ite, ↓kB_bl, ↓gets_fz, ↓gets_un, ↓gets_tu, ↓movs_fz, ↓movs_un, ↓movs_tu, ↓next_next, ↓next_ret, ↓next_brk, ↓next_cnt, ↓ret_ret, ↓ret_exn, ↓ret_bad, ↓run_ite, ↓run_iteo, ↓run_of, ↓fin_ret, ↓fin_next, ↓finX_eq, ↓run_mbad, slot, rds, AV.rd, Own.simple, sv, Prim.run, Prim.ints, fzv, newl, outs, asgP, setAll, tupV, ownT, lstV, itemV, seqOf, lstOf, intOf, p_add, p_sub, p_mul, p_mod, p_fdiv, p_pow, p_neg, p_lt, p_le, p_gt, p_ge, p_isNone, p_notNone, p_idx, p_slLo, p_slHi, p_len, p_tuple, p_list, p_max2, p_min2, p_abs, p_int_, D.flat, passA, backA, takeA, frzA, List.getElem?_cons_zero, List.getElem?_cons_succ, Option.bind_some, Option.bind_none, id_eq, ↓reduceIte, List.map_cons, List.map_nil, List.cons_append, List.nil_append, List.replicate, List.set_cons_zero, List.set_cons_succ, and_true, true_and, and_self, eq_self, List.length_cons, List.length_nil, Nat.reduceAdd, Nat.reduceLeDiff, Nat.reduceLT, Bool.true_eq_false, Bool.false_eq_true, decide_true, decide_false, if_true, if_false, decide_eq_true_eq, Bool.and_eq_true, Bool.or_eq_true, List.all_cons, List.all_nil, Bool.and_true, Bool.and_self, p_eq, p_ne, eq_int, d0, p_isTuple, p_isStr, at0, at1, n1, in_2, se_add_add, se_add_less, se_add_zero, se_add_if, se_add_while, se_add_beside, se_less_add, se_less_less, se_less_zero, se_less_if, se_less_while, se_less_beside, se_zero_add, se_zero_less, se_zero_zero, se_zero_if, se_zero_while, se_zero_beside, se_if_add, se_if_less, se_if_zero, se_if_if, se_if_while, se_if_beside, se_while_add, se_while_less, se_while_zero, se_while_if, se_while_while, se_while_beside, se_beside_add, se_beside_less, se_beside_zero, se_beside_if, se_beside_while, se_beside_beside, ss_add_less, ss_add_zero, ss_add_if, ss_add_while, ss_add_beside, ss_less_add, ss_less_zero, ss_less_if, ss_less_while, ss_less_beside, ss_zero_add, ss_zero_less, ss_zero_if, ss_zero_while, ss_zero_beside, ss_if_add, ss_if_less, ss_if_zero, ss_if_while, ss_if_beside, ss_while_add, ss_while_less, ss_while_zero, ss_while_if, ss_while_beside, ss_beside_add, ss_beside_less, ss_beside_zero, ss_beside_if, ss_beside_while, sn_add_less, sn_add_zero, sn_add_if, sn_add_while, sn_add_beside, sn_less_add, sn_less_zero, sn_less_if, sn_less_while, sn_less_beside, sn_zero_add, sn_zero_less, sn_zero_if, sn_zero_while, sn_zero_beside, sn_if_add, sn_if_less, sn_if_zero, sn_if_while, sn_if_beside, sn_while_add, sn_while_less, sn_while_zero, sn_while_if, sn_while_beside, sn_beside_add, sn_beside_less, sn_beside_zero, sn_beside_if, sn_beside_while, reduceCtorEq, Option.map_some, Bool.not_false, Bool.not_true, Bool.or_false, Bool.or_self, dct3, p_dget2, D.still, D.key?, lookK, D.kind, Prim.kind, List.zip_cons_cons, List.zip_nil_right, Option.getD_some, Sum.inr.injEq, ↓run_callG h.inner, ↓io_inner_of, e4, Int.reduceEq, Int.cast_ofNat_Int]
    refine ⟨by decide, by decide, by decide, ?_⟩
    refine inner_all h ha (N + 5) (by omega) _ _ ?_ ?_
    · intro z hz
      simp only [Row.inner, List.mem_cons, List.not_mem_nil, or_false] at hz
      rcases hz with rfl | rfl
      · exact ⟨by omega, ox⟩
      · exact ⟨by omega, oy⟩
    · intro bs hb
      simp only [↓rE_cst, ↓rE_glb, ↓rE_var, ↓rE_mov, ↓rE_tup, ↓rE_lst, ↓rE_op, ↓rE_ife, ↓rE_and, ↓rE_or, ↓rE_not, ↓rE_chain, ↓rE_call, ↓rE_mth, ↓rE_comp, ↓rE_dsp, ↓rO_var, ↓rO_op, ↓rO_cst, ↓rO_glb, ↓rO_mov, ↓rO_tup, ↓rO_lst, ↓rO_ife, ↓rO_and, ↓rO_or, ↓rO_not, ↓rO_chain, ↓rO_mth, ↓rO_call, ↓rO_comp, ↓rO_dsp, ↓rA_nil, ↓rA_cons, ↓rL_nil, ↓rL_cons, ↓rT_and, ↓rT_or, ↓rT_not, ↓rT_var, ↓rT_op, ↓rT_chain, ↓rT_call, ↓rT_cst, ↓rT_ife, ↓rI_seq, ↓rI_rng1, ↓rI_zip, ↓rB_nil, ↓rB_cons, ↓rS_asg, ↓rS_par, ↓rS_ex, ↓rS_ret, ↓rS_retN, ↓rS_iff, ↓rS_for, ↓rS_whl, ↓rS_rse, ↓rS_app, ↓rS_ext, ↓rS_sub, ↓run_pure, ↓run_bind, ↓run_ok, ↓run_exn, ↓run_bad, ↓r_getV, ↓got_some, ↓got_none, ↓got_map, ↓got_ite, ↓kB_bl, ↓gets_fz, ↓gets_un, ↓gets_tu, ↓movs_fz, ↓movs_un, ↓movs_tu, ↓next_next, ↓next_ret, ↓next_brk, ↓next_cnt, ↓ret_ret, ↓ret_exn, ↓ret_bad, ↓run_ite, ↓run_iteo, ↓run_of, ↓fin_ret, ↓fin_next, ↓finX_eq, ↓run_mbad, slot, rds, AV.rd, Own.simple, sv, Prim.run, Prim.ints, fzv, newl, outs, asgP, setAll, tupV, ownT, lstV, itemV, seqOf, lstOf, intOf, p_add, p_sub, p_mul, p_mod, p_fdiv, p_pow, p_neg, p_lt, p_le, p_gt, p_ge, p_isNone, p_notNone, p_idx, p_slLo, p_slHi, p_len, p_tuple, p_list, p_max2, p_min2, p_abs, p_int_, D.flat, passA, backA, takeA, frzA, List.getElem?_cons_zero, List.getElem?_cons_succ, Option.bind_some, Option.bind_none, id_eq, ↓reduceIte, List.map_cons, List.map_nil, List.cons_append, List.nil_append, List.replicate, List.set_cons_zero, List.set_cons_succ, and_true, true_and, and_self, eq_self, List.length_cons, List.length_nil, Nat.reduceAdd, Nat.reduceLeDiff, Nat.reduceLT, Bool.true_eq_false, Bool.false_eq_true, decide_true, decide_false, if_true, if_false, decide_eq_true_eq, Bool.and_eq_true, Bool.or_eq_true, List.all_cons, List.all_nil, Bool.and_true, Bool.and_self, p_all_, bls_bools?, Option.map_some, hb, at0, p_ne, se_add_add, se_add_less, se_add_zero, se_add_if, se_add_while, se_add_beside, se_less_add, se_less_less, se_less_zero, se_less_if, se_less_while, se_less_beside, se_zero_add, se_zero_less, se_zero_zero, se_zero_if, se_zero_while, se_zero_beside, se_if_add, se_if_less, se_if_zero, se_if_if, se_if_while, se_if_beside, se_while_add, se_while_less, se_while_zero, se_while_if, se_while_while, se_while_beside, se_beside_add, se_beside_less, se_beside_zero, se_beside_if, se_beside_while, se_beside_beside, Bool.not_true, Bool.not_false, ↓run_callG h.apart, ↓io_is_apart, e1]
  | iff a x y =>
    rw [Row.ok] at ho
    obtain ⟨_, oa, ox, oy⟩ := ho
    rw [Row.cnt] at hc
    have e1 := is_unit h (N + 3) a
    have e4 := inner_of h (N + 4) (.iff a x y)
    rw [Row.enc] at hp e4 ⊢
    rw [D.plain] at hp
    have n1 := eq_nil hp
    have ee : (decide (0 ≤ a) && decide (a ≤ 5)) = true := by simp [oa]
    rw [ee] at e1
    simp only [fd_is_row, ↓rE_cst, ↓rE_glb, ↓rE_var, ↓rE_mov, ↓rE_tup, ↓rE_lst, ↓rE_op, ↓rE_ife, ↓rE_and, ↓rE_or, ↓rE_not, ↓rE_chain, ↓rE_call, ↓rE_mth, ↓rE_comp, ↓rE_dsp, ↓rO_var, ↓rO_op, ↓rO_cst, ↓rO_glb, ↓rO_mov, ↓rO_tup, ↓rO_lst, ↓rO_ife, ↓rO_and, ↓rO_or, ↓rO_not, ↓rO_chain, ↓rO_mth, ↓rO_call, ↓rO_comp, ↓rO_dsp, ↓rA_nil, ↓rA_cons, ↓rL_nil, ↓rL_cons, ↓rT_and, ↓rT_or, ↓rT_not, ↓rT_var, ↓rT_op, ↓rT_chain, ↓rT_call, ↓rT_cst, ↓rT_ife, ↓rI_seq, ↓rI_rng1, ↓rI_zip, ↓rB_nil, ↓rB_cons, ↓rS_asg, ↓rS_par, ↓rS_ex, ↓rS_ret, ↓rS_retN, ↓rS_iff, ↓rS_for, ↓rS_whl, ↓rS_rse, ↓rS_app, ↓rS_ext, ↓rS_sub, ↓run_pure, ↓run_bind, ↓run_ok, ↓run_exn, ↓run_bad, ↓r_getV, ↓got_some, ↓got_none, ↓got_map, ↓got_ite, ↓kB_bl, ↓gets_fz, ↓gets_un, ↓gets_tu, ↓movs_fz, ↓movs_un, ↓movs_tu, ↓next_next, ↓next_ret, ↓next_brk, ↓next_cnt, ↓ret_ret, ↓ret_exn, ↓ret_bad, ↓run_ite, ↓run_iteo, ↓run_of, ↓fin_ret, ↓fin_next, ↓finX_eq, ↓run_mbad, slot, rds, AV.rd, Own.simple, sv, Prim.run, Prim.ints, fzv, newl, outs, asgP, setAll, tupV, ownT, lstV, itemV, seqOf, lstOf, intOf, p_add, p_sub, p_mul, p_mod, p_fdiv, p_pow, p_neg, p_lt, p_le, p_gt, p_ge, p_isNone, p_notNone, p_idx, p_slLo, p_slHi, p_len, p_tuple, p_list, p_max2, p_min2, p_abs, p_int_, D.flat, passA, backA, takeA, frzA, List.getElem?_cons_zero, List.getElem?_cons_succ, Option.bind_some, Option.bind_none, id_eq, ↓reduceIte, List.map_cons, List.map_nil, List.cons_append, List.nil_append, List.replicate, List.set_cons_zero, List.set_cons_succ, and_true, true_and, and_self, eq_self, List.length_cons, List.length_nil, Nat.reduceAdd, Nat.reduceLeDiff, Nat.reduceLT, Bool.true_eq_false, Bool.false_eq_true, decide_true, decide_false, if_true, if_false, decide_eq_true_eq, Bool.and_eq_true, Bool.or_eq_true, List.all_cons, List.all_nil, Bool.and_true, Bool.and_self, p_eq, p_ne, eq_int, d0, p_isTuple, p_isStr, at0, at1, n1, in_2, se_add_add, se_add_less, se_add_zero, se_add_if, se_add_while, se_add_beside, se_less_add, se_less_less, se_less_zero, se_less_if, se_less_while, se_less_beside, se_zero_add, se_zero_less, se_zero_zero, se_zero_if, se_zero_while, se_zero_beside, se_if_add, se_if_less, se_if_zero, se_if_if, se_if_while, se_if_beside, se_while_add, se_while_less, se_while_zero, se_while_if, se_while_while, se_while_beside, se_beside_add, se_beside_less, se_beside_zero, se_beside_if, se_beside_while, se_beside_beside, ss_add_less, ss_add_zero, ss_add_if, ss_add_while, ss_add_beside, ss_less_add, ss_less_zero, ss_less_if, ss_less_while, ss_less_beside, ss_zero_add, ss_zero_less, ss_zero_if, ss_zero_while, ss_zero_beside, ss_if_add, ss_if_less, ss_if_zero, ss_if_while, ss_if_beside, ss_while_add, ss_while_less, ss_while_zero, ss_while_if, ss_while_beside, ss_beside_add, ss_beside_less, ss_beside_zero, ss_beside_if, ss_beside_while, sn_add_less, sn_add_zero, sn_add_if, sn_add_while, sn_add_beside, sn_less_add, sn_less_zero, sn_less_if, sn_less_while, sn_less_beside, sn_zero_add, sn_zero_less, sn_zero_if, sn_zero_while, sn_zero_beside, sn_if_add, sn_if_less, sn_if_zero, sn_if_while, sn_if_beside, sn_while_add, sn_while_less, sn_while_zero, sn_while_if, sn_while_beside, sn_beside_add, sn_beside_less, sn_beside_zero, sn_beside_if, sn_beside_while, reduceCtorEq, Option.map_some, Bool.not_false, Bool.not_true, Bool.or_false, Bool.or_self, Bool.true_or, Bool.or_true, beq_self_eq_true, dct3, p_dget2, D.still, D.key?, lookK, D.kind, Prim.kind, List.zip_cons_cons, List.zip_nil_right, Option.getD_some, Sum.inr.injEq, ↓run_callG h.unit, ↓io_is_unit, e1, ↓run_callG h.inner, ↓io_inner_of, e4, Int.reduceEq, Int.cast_ofNat_Int]
    refine ⟨by decide, by decide, by decide, ?_⟩
    refine inner_all h ha (N + 5) (by omega) _ _ ?_ ?_
    · intro z hz
      simp only [Row.inner, List.mem_cons, List.not_mem_nil, or_false] at hz
      rcases hz with rfl | rfl
      · exact ⟨by omega, ox⟩
      · exact ⟨by omega, oy⟩
    · intro bs hb
      simp only [↓rE_cst, ↓rE_glb, ↓rE_var, ↓rE_mov, ↓rE_tup, ↓rE_lst, ↓rE_op, ↓rE_ife, ↓rE_and, ↓rE_or, ↓rE_not, ↓rE_chain, ↓rE_call, ↓rE_mth, ↓rE_comp, ↓rE_dsp, ↓rO_var, ↓rO_op, ↓rO_cst, ↓rO_glb, ↓rO_mov, ↓rO_tup, ↓rO_lst, ↓rO_ife, ↓rO_and, ↓rO_or, ↓rO_not, ↓rO_chain, ↓rO_mth, ↓rO_call, ↓rO_comp, ↓rO_dsp, ↓rA_nil, ↓rA_cons, ↓rL_nil, ↓rL_cons, ↓rT_and, ↓rT_or, ↓rT_not, ↓rT_var, ↓rT_op, ↓rT_chain, ↓rT_call, ↓rT_cst, ↓rT_ife, ↓rI_seq, ↓rI_rng1, ↓rI_zip, ↓rB_nil, ↓rB_cons, ↓rS_asg, ↓rS_par, ↓rS_ex, ↓rS_ret, ↓rS_retN, ↓rS_iff, ↓rS_for, ↓rS_whl, ↓rS_rse, ↓rS_app, ↓rS_ext, ↓rS_sub, ↓run_pure, ↓run_bind, ↓run_ok, ↓run_exn, ↓run_bad, ↓r_getV, ↓got_some, ↓got_none, ↓got_map, ↓got_ite, ↓kB_bl, ↓gets_fz, ↓gets_un, ↓gets_tu, ↓movs_fz, ↓movs_un, ↓movs_tu, ↓next_next, ↓next_ret, ↓next_brk, ↓next_cnt, ↓ret_ret, ↓ret_exn, ↓ret_bad, ↓run_ite, ↓run_iteo, ↓run_of, ↓fin_ret, ↓fin_next, ↓finX_eq, ↓run_mbad, slot, rds, AV.rd, Own.simple, sv, Prim.run, Prim.ints, fzv, newl, outs, asgP, setAll, tupV, ownT, lstV, itemV, seqOf, lstOf, intOf, p_add, p_sub, p_mul, p_mod, p_fdiv, p_pow, p_neg, p_lt, p_le, p_gt, p_ge, p_isNone, p_notNone, p_idx, p_slLo, p_slHi, p_len, p_tuple, p_list, p_max2, p_min2, p_abs, p_int_, D.flat, passA, backA, takeA, frzA, List.getElem?_cons_zero, List.getElem?_cons_succ, Option.bind_some, Option.bind_none, id_eq, ↓reduceIte, List.map_cons, List.map_nil, List.cons_append, List.nil_append, List.replicate, List.set_cons_zero, List.set_cons_succ, and_true, true_and, and_self, eq_self, List.length_cons, List.length_nil, Nat.reduceAdd, Nat.reduceLeDiff, Nat.reduceLT, Bool.true_eq_false, Bool.false_eq_true, decide_true, decide_false, if_true, if_false, decide_eq_true_eq, Bool.and_eq_true, Bool.or_eq_true, List.all_cons, List.all_nil, Bool.and_true, Bool.and_self, p_all_, bls_bools?, Option.map_some, hb, at0, p_ne, se_add_add, se_add_less, se_add_zero, se_add_if, se_add_while, se_add_beside, se_less_add, se_less_less, se_less_zero, se_less_if, se_less_while, se_less_beside, se_zero_add, se_zero_less, se_zero_zero, se_zero_if, se_zero_while, se_zero_beside, se_if_add, se_if_less, se_if_zero, se_if_if, se_if_while, se_if_beside, se_while_add, se_while_less, se_while_zero, se_while_if, se_while_while, se_while_beside, se_beside_add, se_beside_less, se_beside_zero, se_beside_if, se_beside_while, se_beside_beside, Bool.not_true, Bool.not_false]
  | whl a x =>
    rw [Row.ok] at ho
    obtain ⟨_, oa, ox⟩ := ho
    rw [Row.cnt] at hc
    have e1 := is_unit h (N + 3) a
    have e4 := inner_of h (N + 4) (.whl a x)
    rw [Row.enc] at hp e4 ⊢
    rw [D.plain] at hp
    have n1 := eq_nil hp
    have ee : (decide (0 ≤ a) && decide (a ≤ 5)) = true := by simp [oa]
    rw [ee] at e1
    simp only [fd_is_row, ↓rE_cst, ↓rE_glb, ↓rE_var, ↓rE_mov, ↓rE_tup, ↓rE_lst, ↓rE_op, ↓rE_ife, ↓rE_and, ↓rE_or, ↓rE_not, ↓rE_chain, ↓rE_call, ↓rE_mth, ↓rE_comp, ↓rE_dsp, ↓rO_var, ↓rO_op, ↓rO_cst, ↓rO_glb, ↓rO_mov, ↓rO_tup, ↓rO_lst, ↓rO_ife, ↓rO_and, ↓rO_or, ↓rO_not, ↓rO_chain, ↓rO_mth, ↓rO_call, ↓rO_comp, ↓rO_dsp, ↓rA_nil, ↓rA_cons, ↓rL_nil, ↓rL_cons, ↓rT_and, ↓rT_or, ↓rT_not, ↓rT_var, ↓rT_op, ↓rT_chain, ↓rT_call, ↓rT_cst, ↓rT_ife, ↓rI_seq, ↓rI_rng1, ↓rI_zip, ↓rB_nil, ↓rB_cons, ↓rS_asg, ↓rS_par, ↓rS_ex, ↓rS_ret, ↓rS_retN, ↓rS_iff, ↓rS_for, ↓rS_whl, ↓rS_rse, ↓rS_app, ↓rS_ext, ↓rS_sub, ↓run_pure, ↓run_bind, ↓run_ok, ↓run_exn, ↓run_bad, ↓r_getV, ↓got_some, ↓got_none, ↓got_map, ↓got_ite, ↓kB_bl, ↓gets_fz, ↓gets_un, ↓gets_tu, ↓movs_fz, ↓movs_un, ↓movs_tu, ↓next_next, ↓next_ret, ↓next_brk, ↓next_cnt, ↓ret_ret, ↓ret_exn, ↓ret_bad, ↓run_ite, ↓run_iteo, ↓run_of, ↓fin_ret, ↓fin_next, ↓finX_eq, ↓run_mbad, slot, rds, AV.rd, Own.simple, sv, Prim.run, Prim.ints, fzv, newl, outs, asgP, setAll, tupV, ownT, lstV, itemV, seqOf, lstOf, intOf, p_add, p_sub, p_mul, p_mod, p_fdiv, p_pow, p_neg, p_lt, p_le, p_gt, p_ge, p_isNone, p_notNone, p_idx, p_slLo, p_slHi, p_len, p_tuple, p_list, p_max2, p_min2, p_abs, p_int_, D.flat, passA, backA, takeA, frzA, List.getElem?_cons_zero, List.getElem?_cons_succ, Option.bind_some, Option.bind_none, id_eq, ↓reduceIte, List.map_cons, List.map_nil, List.cons_append, List.nil_append, List.replicate, List.set_cons_zero, List.set_cons_succ, and_true, true_and, and_self, eq_self, List.length_cons, List.length_nil, Nat.reduceAdd, Nat.reduceLeDiff, Nat.reduceLT, Bool.true_eq_false, Bool.false_eq_true, decide_true, decide_false, if_true, if_false, decide_eq_true_eq, Bool.and_eq_true, Bool.or_eq_true, List.all_cons, List.all_nil, Bool.and_true, Bool.and_self, p_eq, p_ne, eq_int, d0, p_isTuple, p_isStr, at0, at1, n1, in_2, se_add_add, se_add_less, se_add_zero, se_add_if, se_add_while, se_add_beside, se_less_add, se_less_less, se_less_zero, se_less_if, se_less_while, se_less_beside, se_zero_add, se_zero_less, se_zero_zero, se_zero_if, se_zero_while, se_zero_beside, se_if_add, se_if_less, se_if_zero, se_if_if, se_if_while, se_if_beside, se_while_add, se_while_less, se_while_zero, se_while_if, se_while_while, se_while_beside, se_beside_add, se_beside_less, se_beside_zero, se_beside_if, se_beside_while, se_beside_beside, ss_add_less, ss_add_zero, ss_add_if, ss_add_while, ss_add_beside, ss_less_add, ss_less_zero, ss_less_if, ss_less_while, ss_less_beside, ss_zero_add, ss_zero_less, ss_zero_if, ss_zero_while, ss_zero_beside, ss_if_add, ss_if_less, ss_if_zero, ss_if_while, ss_if_beside, ss_while_add, ss_while_less, ss_while_zero, ss_while_if, ss_while_beside, ss_beside_add, ss_beside_less, ss_beside_zero, ss_beside_if, ss_beside_while, sn_add_less, sn_add_zero, sn_add_if, sn_add_while, sn_add_beside, sn_less_add, sn_less_zero, sn_less_if, sn_less_while, sn_less_beside, sn_zero_add, sn_zero_less, sn_zero_if, sn_zero_while, sn_zero_beside, sn_if_add, sn_if_less, sn_if_zero, sn_if_while, sn_if_beside, sn_while_add, sn_while_less, sn_while_zero, sn_while_if, sn_while_beside, sn_beside_add, sn_beside_less, sn_beside_zero, sn_beside_if, sn_beside_while, reduceCtorEq, Option.map_some, Bool.not_false, Bool.not_true, Bool.or_false, Bool.or_self, Bool.true_or, Bool.or_true, beq_self_eq_true, dct3, p_dget2, D.still, D.key?, lookK, D.kind, Prim.kind, List.zip_cons_cons, List.zip_nil_right, Option.getD_some, Sum.inr.injEq, ↓run_callG h.unit, ↓io_is_unit, e1, ↓run_callG h.inner, ↓io_inner_of, e4, Int.reduceEq, Int.cast_ofNat_Int]
    refine ⟨by decide, by decide, by decide, ?_⟩
    refine inner_all h ha (N + 5) (by omega) _ _ ?_ ?_
    · intro z hz
      simp only [Row.inner, List.mem_cons, List.not_mem_nil, or_false] at hz
      rcases hz with rfl
      exact ⟨by omega, ox⟩
    · intro bs hb
      simp only [↓rE_cst, ↓rE_glb, ↓rE_var, ↓rE_mov, ↓rE_tup, ↓rE_lst, ↓rE_op, ↓rE_ife, ↓rE_and, ↓rE_or, ↓rE_not, ↓rE_chain, ↓rE_call, ↓rE_mth, ↓rE_comp, ↓rE_dsp, ↓rO_var, ↓rO_op, ↓rO_cst, ↓rO_glb, ↓rO_mov, ↓rO_tup, ↓rO_lst, ↓rO_ife, ↓rO_and, ↓rO_or, ↓rO_not, ↓rO_chain, ↓rO_mth, ↓rO_call, ↓rO_comp, ↓rO_dsp, ↓rA_nil, ↓rA_cons, ↓rL_nil, ↓rL_cons, ↓rT_and, ↓rT_or, ↓rT_not, ↓rT_var, ↓rT_op, ↓rT_chain, ↓rT_call, ↓rT_cst, ↓rT_ife, ↓rI_seq, ↓rI_rng1, ↓rI_zip, ↓rB_nil, ↓rB_cons, ↓rS_asg, ↓rS_par, ↓rS_ex, ↓rS_ret, ↓rS_retN, ↓rS_iff, ↓rS_for, ↓rS_whl, ↓rS_rse, ↓rS_app, ↓rS_ext, ↓rS_sub, ↓run_pure, ↓run_bind, ↓run_ok, ↓run_exn, ↓run_bad, ↓r_getV, ↓got_some, ↓got_none, ↓got_map, ↓got_ite, ↓kB_bl, ↓gets_fz, ↓gets_un, ↓gets_tu, ↓movs_fz, ↓movs_un, ↓movs_tu, ↓next_next, ↓next_ret, ↓next_brk, ↓next_cnt, ↓ret_ret, ↓ret_exn, ↓ret_bad, ↓run_ite, ↓run_iteo, ↓run_of, ↓fin_ret, ↓fin_next, ↓finX_eq, ↓run_mbad, slot, rds, AV.rd, Own.simple, sv, Prim.run, Prim.ints, fzv, newl, outs, asgP, setAll, tupV, ownT, lstV, itemV, seqOf, lstOf, intOf, p_add, p_sub, p_mul, p_mod, p_fdiv, p_pow, p_neg, p_lt, p_le, p_gt, p_ge, p_isNone, p_notNone, p_idx, p_slLo, p_slHi, p_len, p_tuple, p_list, p_max2, p_min2, p_abs, p_int_, D.flat, passA, backA, takeA, frzA, List.getElem?_cons_zero, List.getElem?_cons_succ, Option.bind_some, Option.bind_none, id_eq, ↓reduceIte, List.map_cons, List.map_nil, List.cons_append, List.nil_append, List.replicate, List.set_cons_zero, List.set_cons_succ, and_true, true_and, and_self, eq_self, List.length_cons, List.length_nil, Nat.reduceAdd, Nat.reduceLeDiff, Nat.reduceLT, Bool.true_eq_false, Bool.false_eq_true, decide_true, decide_false, if_true, if_false, decide_eq_true_eq, Bool.and_eq_true, Bool.or_eq_true, List.all_cons, List.all_nil, Bool.and_true, Bool.and_self, p_all_, bls_bools?, Option.map_some, hb, at0, p_ne, se_add_add, se_add_less, se_add_zero, se_add_if, se_add_while, se_add_beside, se_less_add, se_less_less, se_less_zero, se_less_if, se_less_while, se_less_beside, se_zero_add, se_zero_less, se_zero_zero, se_zero_if, se_zero_while, se_zero_beside, se_if_add, se_if_less, se_if_zero, se_if_if, se_if_while, se_if_beside, se_while_add, se_while_less, se_while_zero, se_while_if, se_while_while, se_while_beside, se_beside_add, se_beside_less, se_beside_zero, se_beside_if, se_beside_while, se_beside_beside, Bool.not_true, Bool.not_false]
theorem are_rows {P : Prg} (h : HasSub P) : ∀ d, AreRowsOk P d
  | 0 => are_of_is h fun N r _ _ ho => by cases r <;> (rw [Row.ok] at ho; exact absurd ho.1 (by omega))
  | d + 1 => are_of_is h (is_of_are h (are_rows h d))
theorem need_rows {P : Prg} (h : HasSub P) (N : Nat) (hN : 12 ≤ N) (rs : Rows) (ho : rs.ok 3) (hc : rs.cnt ≤ 12) : callF P N "need_rows" [(.tup rs.encs, .fz)] = .ret (.non, .fz) [] := by
  obtain ⟨N, rfl⟩ : ∃ M, N = M + 1 := ⟨N - 1, by omega⟩
  refine Ret.eq (call_run h.nrows rfl ?_)
  have e1 : callF P N "are_rows" [(.tup rs.encs, .fz), (.int 3, .fz)] = .ret (.bl true, .fz) [] := are_rows h 3 N rs (by omega) (by omega) ho
  have e2 := count_of h 3 N rs (Rows.ok_dep rs 3 ho) (by omega)
  have c : ¬ ((12 : Int) < (rs.cnt : Int)) := by omega
  simp only [fd_need_rows, ↓rE_cst, ↓rE_glb, ↓rE_var, ↓rE_mov, ↓rE_tup, ↓rE_lst, ↓rE_op, ↓rE_ife, ↓rE_and, ↓rE_or, ↓rE_not, ↓rE_chain, ↓rE_call, ↓rE_mth, ↓rE_comp, ↓rE_dsp, ↓rO_var, ↓rO_op, ↓rO_cst, ↓rO_glb, ↓rO_mov, ↓rO_tup, ↓rO_lst, ↓rO_ife, ↓rO_and, ↓rO_or, ↓rO_not, ↓rO_chain, ↓rO_mth, ↓rO_call, ↓rO_comp, ↓rO_dsp, ↓rA_nil, ↓rA_cons, ↓rL_nil, ↓rL_cons, ↓rT_and, ↓rT_or, ↓rT_not, ↓rT_var, ↓rT_op, ↓rT_chain, ↓rT_call, ↓rT_cst, ↓rT_ife, ↓rI_seq, ↓rI_rng1, ↓rI_zip, ↓rB_nil, ↓rB_cons, ↓rS_asg, ↓rS_par, ↓rS_ex, ↓rS_ret, ↓rS_retN, ↓rS_iff, ↓rS_for, ↓rS_whl, ↓rS_rse, ↓rS_app, ↓rS_ext, ↓rS_sub, ↓run_pure, ↓run_bind, ↓run_ok, ↓run_exn, ↓run_bad, ↓r_getV, ↓got_some, ↓got_none, ↓got_map, ↓got_ite, ↓kB_bl, ↓gets_fz, ↓gets_un, ↓gets_tu, ↓movs_fz, ↓movs_un, ↓movs_tu, ↓next_next, ↓next_ret, ↓next_brk, ↓next_cnt, ↓ret_ret, ↓ret_exn, ↓ret_bad, ↓run_ite, ↓run_iteo, ↓run_of, ↓fin_ret, ↓fin_next, ↓finX_eq, ↓run_mbad, slot, rds, AV.rd, Own.simple, sv, Prim.run, Prim.ints, fzv, newl, outs, asgP, setAll, tupV, ownT, lstV, itemV, seqOf, lstOf, intOf, p_add, p_sub, p_mul, p_mod, p_fdiv, p_pow, p_neg, p_lt, p_le, p_gt, p_ge, p_isNone, p_notNone, p_idx, p_slLo, p_slHi, p_len, p_tuple, p_list, p_max2, p_min2, p_abs, p_int_, D.flat, passA, backA, takeA, frzA, List.getElem?_cons_zero, List.getElem?_cons_succ, Option.bind_some, Option.bind_none, id_eq, ↓reduceIte, List.map_cons, List.map_nil, List.cons_append, List.nil_append, List.replicate, List.set_cons_zero, List.set_cons_succ, and_true, true_and, and_self, eq_self, List.length_cons, List.length_nil, Nat.reduceAdd, Nat.reduceLeDiff, Nat.reduceLT, Bool.true_eq_false, Bool.false_eq_true, decide_true, decide_false, if_true, if_false, decide_eq_true_eq, Bool.and_eq_true, Bool.or_eq_true, List.all_cons, List.all_nil, Bool.and_true, Bool.and_self, cfg_gc, h.gD, h.gR, ↓run_callG h.arer, ↓io_are_rows, e1, ↓run_callG h.cnt, ↓io_count_of, e2, c, Bool.not_true]
end Py

set_option Elab.async false
set_option linter.all false
set_option maxRecDepth 100000
set_option maxHeartbeats 4000000
namespace Py
open PySem
theorem need_numbers {P : Prg} (h : HasSub P) (n : Nat) (xs : List Int) (hl : xs.length = 6) (hb : ∀ x ∈ xs, -9999 ≤ x ∧ x ≤ 9999) : callF P (n + 2) "need_numbers" [(.tup (intsD xs), .fz)] = .ret (.non, .fz) [] := by
  refine Ret.eq (call_run h.nnum rfl ?_)
  have hl' : (intsD xs).length = 6 := by unfold intsD; rw [List.length_map, hl]
  simp only [fd_need_numbers, ↓rE_cst, ↓rE_glb, ↓rE_var, ↓rE_mov, ↓rE_tup, ↓rE_lst, ↓rE_op, ↓rE_ife, ↓rE_and, ↓rE_or, ↓rE_not, ↓rE_chain, ↓rE_call, ↓rE_mth, ↓rE_comp, ↓rE_dsp, ↓rO_var, ↓rO_op, ↓rO_cst, ↓rO_glb, ↓rO_mov, ↓rO_tup, ↓rO_lst, ↓rO_ife, ↓rO_and, ↓rO_or, ↓rO_not, ↓rO_chain, ↓rO_mth, ↓rO_call, ↓rO_comp, ↓rO_dsp, ↓rA_nil, ↓rA_cons, ↓rL_nil, ↓rL_cons, ↓rT_and, ↓rT_or, ↓rT_not, ↓rT_var, ↓rT_op, ↓rT_chain, ↓rT_call, ↓rT_cst, ↓rT_ife, ↓rI_seq, ↓rI_rng1, ↓rI_zip, ↓rB_nil, ↓rB_cons, ↓rS_asg, ↓rS_par, ↓rS_ex, ↓rS_ret, ↓rS_retN, ↓rS_iff, ↓rS_for, ↓rS_whl, ↓rS_rse, ↓rS_app, ↓rS_ext, ↓rS_sub, ↓run_pure, ↓run_bind, ↓run_ok, ↓run_exn, ↓run_bad, ↓r_getV, ↓got_some, ↓got_none, ↓got_map, ↓got_ite, ↓kB_bl, ↓gets_fz, ↓gets_un, ↓gets_tu, ↓movs_fz, ↓movs_un, ↓movs_tu, ↓next_next, ↓next_ret, ↓next_brk, ↓next_cnt, ↓ret_ret, ↓ret_exn, ↓ret_bad, ↓run_ite, ↓run_iteo, ↓run_of, ↓fin_ret, ↓fin_next, ↓finX_eq, ↓run_mbad, slot, rds, AV.rd, Own.simple, sv, Prim.run, Prim.ints, fzv, newl, outs, asgP, setAll, tupV, ownT, lstV, itemV, seqOf, lstOf, intOf, p_add, p_sub, p_mul, p_mod, p_fdiv, p_pow, p_neg, p_lt, p_le, p_gt, p_ge, p_isNone, p_notNone, p_idx, p_slLo, p_slHi, p_len, p_tuple, p_list, p_max2, p_min2, p_abs, p_int_, D.flat, passA, backA, takeA, frzA, List.getElem?_cons_zero, List.getElem?_cons_succ, Option.bind_some, Option.bind_none, id_eq, ↓reduceIte, List.map_cons, List.map_nil, List.cons_append, List.nil_append, List.replicate, List.set_cons_zero, List.set_cons_succ, and_true, true_and, and_self, eq_self, List.length_cons, List.length_nil, Nat.reduceAdd, Nat.reduceLeDiff, Nat.reduceLT, Bool.true_eq_false, Bool.false_eq_true, decide_true, decide_false, if_true, if_false, decide_eq_true_eq, Bool.and_eq_true, Bool.or_eq_true, List.all_cons, List.all_nil, Bool.and_true, Bool.and_self, p_isTuple, p_ne, hl', cfg_gc, h.gU, h.gG, eq_int, Option.map_some, Bool.not_true, Int.cast_ofNat_Int]
  refine run_comp (fun r acc τ => τ = [some (.tup (intsD xs), .fz), none] ∧ ∃ (l : List Int) (bs : List Bool), r = intsD l ∧ (∀ x ∈ l, -9999 ≤ x ∧ x ≤ 9999) ∧ acc = bls bs ∧ ∀ b ∈ bs, b = true) ?_ ?_ ?_
  · simp only [wipeF, clr, ↓rE_cst, ↓rE_glb, ↓rE_var, ↓rE_mov, ↓rE_tup, ↓rE_lst, ↓rE_op, ↓rE_ife, ↓rE_and, ↓rE_or, ↓rE_not, ↓rE_chain, ↓rE_call, ↓rE_mth, ↓rE_comp, ↓rE_dsp, ↓rO_var, ↓rO_op, ↓rO_cst, ↓rO_glb, ↓rO_mov, ↓rO_tup, ↓rO_lst, ↓rO_ife, ↓rO_and, ↓rO_or, ↓rO_not, ↓rO_chain, ↓rO_mth, ↓rO_call, ↓rO_comp, ↓rO_dsp, ↓rA_nil, ↓rA_cons, ↓rL_nil, ↓rL_cons, ↓rT_and, ↓rT_or, ↓rT_not, ↓rT_var, ↓rT_op, ↓rT_chain, ↓rT_call, ↓rT_cst, ↓rT_ife, ↓rI_seq, ↓rI_rng1, ↓rI_zip, ↓rB_nil, ↓rB_cons, ↓rS_asg, ↓rS_par, ↓rS_ex, ↓rS_ret, ↓rS_retN, ↓rS_iff, ↓rS_for, ↓rS_whl, ↓rS_rse, ↓rS_app, ↓rS_ext, ↓rS_sub, ↓run_pure, ↓run_bind, ↓run_ok, ↓run_exn, ↓run_bad, ↓r_getV, ↓got_some, ↓got_none, ↓got_map, ↓got_ite, ↓kB_bl, ↓gets_fz, ↓gets_un, ↓gets_tu, ↓movs_fz, ↓movs_un, ↓movs_tu, ↓next_next, ↓next_ret, ↓next_brk, ↓next_cnt, ↓ret_ret, ↓ret_exn, ↓ret_bad, ↓run_ite, ↓run_iteo, ↓run_of, ↓fin_ret, ↓fin_next, ↓finX_eq, ↓run_mbad, slot, rds, AV.rd, Own.simple, sv, Prim.run, Prim.ints, fzv, newl, outs, asgP, setAll, tupV, ownT, lstV, itemV, seqOf, lstOf, intOf, p_add, p_sub, p_mul, p_mod, p_fdiv, p_pow, p_neg, p_lt, p_le, p_gt, p_ge, p_isNone, p_notNone, p_idx, p_slLo, p_slHi, p_len, p_tuple, p_list, p_max2, p_min2, p_abs, p_int_, D.flat, passA, backA, takeA, frzA, List.getElem?_cons_zero, List.getElem?_cons_succ, Option.bind_some, Option.bind_none, id_eq, ↓reduceIte, List.map_cons, List.map_nil, List.cons_append, List.nil_append, List.replicate, List.set_cons_zero, List.set_cons_succ, and_true, true_and, and_self, eq_self, List.length_cons, List.length_nil, Nat.reduceAdd, Nat.reduceLeDiff, Nat.reduceLT, Bool.true_eq_false, Bool.false_eq_true, decide_true, decide_false, if_true, if_false, decide_eq_true_eq, Bool.and_eq_true, Bool.or_eq_true, List.all_cons, List.all_nil, Bool.and_true, Bool.and_self]
    exact ⟨xs, [], rfl, hb, rfl, fun b hb => (List.not_mem_nil hb).elim⟩
  · rintro x r acc τ ⟨rfl, l, bs, hr, hl, rfl, hb⟩
    cases l with
    | nil => cases hr
    | cons y l =>
      cases hr
      have e := is_whole h n y (-9999) 9999
      have ee : (decide (-9999 ≤ y) && decide (y ≤ 9999)) = true := by simp [hl y List.mem_cons_self]
      rw [ee] at e
      simp only [↓rE_cst, ↓rE_glb, ↓rE_var, ↓rE_mov, ↓rE_tup, ↓rE_lst, ↓rE_op, ↓rE_ife, ↓rE_and, ↓rE_or, ↓rE_not, ↓rE_chain, ↓rE_call, ↓rE_mth, ↓rE_comp, ↓rE_dsp, ↓rO_var, ↓rO_op, ↓rO_cst, ↓rO_glb, ↓rO_mov, ↓rO_tup, ↓rO_lst, ↓rO_ife, ↓rO_and, ↓rO_or, ↓rO_not, ↓rO_chain, ↓rO_mth, ↓rO_call, ↓rO_comp, ↓rO_dsp, ↓rA_nil, ↓rA_cons, ↓rL_nil, ↓rL_cons, ↓rT_and, ↓rT_or, ↓rT_not, ↓rT_var, ↓rT_op, ↓rT_chain, ↓rT_call, ↓rT_cst, ↓rT_ife, ↓rI_seq, ↓rI_rng1, ↓rI_zip, ↓rB_nil, ↓rB_cons, ↓rS_asg, ↓rS_par, ↓rS_ex, ↓rS_ret, ↓rS_retN, ↓rS_iff, ↓rS_for, ↓rS_whl, ↓rS_rse, ↓rS_app, ↓rS_ext, ↓rS_sub, ↓run_pure, ↓run_bind, ↓run_ok, ↓run_exn, ↓run_bad, ↓r_getV, ↓got_some, ↓got_none, ↓got_map, ↓got_ite, ↓kB_bl, ↓gets_fz, ↓gets_un, ↓gets_tu, ↓movs_fz, ↓movs_un, ↓movs_tu, ↓next_next, ↓next_ret, ↓next_brk, ↓next_cnt, ↓ret_ret, ↓ret_exn, ↓ret_bad, ↓run_ite, ↓run_iteo, ↓run_of, ↓fin_ret, ↓fin_next, ↓finX_eq, ↓run_mbad, slot, rds, AV.rd, Own.simple, sv, Prim.run, Prim.ints, fzv, newl, outs, asgP, setAll, tupV, ownT, lstV, itemV, seqOf, lstOf, intOf, p_add, p_sub, p_mul, p_mod, p_fdiv, p_pow, p_neg, p_lt, p_le, p_gt, p_ge, p_isNone, p_notNone, p_idx, p_slLo, p_slHi, p_len, p_tuple, p_list, p_max2, p_min2, p_abs, p_int_, D.flat, passA, backA, takeA, frzA, List.getElem?_cons_zero, List.getElem?_cons_succ, Option.bind_some, Option.bind_none, id_eq, ↓reduceIte, List.map_cons, List.map_nil, List.cons_append, List.nil_append, List.replicate, List.set_cons_zero, List.set_cons_succ, and_true, true_and, and_self, eq_self, List.length_cons, List.length_nil, Nat.reduceAdd, Nat.reduceLeDiff, Nat.reduceLT, Bool.true_eq_false, Bool.false_eq_true, decide_true, decide_false, if_true, if_false, decide_eq_true_eq, Bool.and_eq_true, Bool.or_eq_true, List.all_cons, List.all_nil, Bool.and_true, Bool.and_self, evC, cfg_gc, h.gG, Int.reduceSub, ↓run_callG h.whole, ↓io_is_whole, e, clr]
      refine ⟨l, bs ++ [true], rfl, fun x hx => hl x (List.mem_cons_of_mem _ hx), by unfold bls; rw [List.map_append]; rfl, ?_⟩
      intro b hb'
      rcases List.mem_append.mp hb' with z | z
      · exact hb b z
      · exact List.mem_singleton.mp z
  · rintro ys τ ⟨rfl, l, bs, hr, hl, rfl, hb⟩
    have : bs.all id = true := by
      rw [List.all_eq_true]
      intro b hb'
      rw [hb b hb']; rfl
    simp only [putBack, ↓rE_cst, ↓rE_glb, ↓rE_var, ↓rE_mov, ↓rE_tup, ↓rE_lst, ↓rE_op, ↓rE_ife, ↓rE_and, ↓rE_or, ↓rE_not, ↓rE_chain, ↓rE_call, ↓rE_mth, ↓rE_comp, ↓rE_dsp, ↓rO_var, ↓rO_op, ↓rO_cst, ↓rO_glb, ↓rO_mov, ↓rO_tup, ↓rO_lst, ↓rO_ife, ↓rO_and, ↓rO_or, ↓rO_not, ↓rO_chain, ↓rO_mth, ↓rO_call, ↓rO_comp, ↓rO_dsp, ↓rA_nil, ↓rA_cons, ↓rL_nil, ↓rL_cons, ↓rT_and, ↓rT_or, ↓rT_not, ↓rT_var, ↓rT_op, ↓rT_chain, ↓rT_call, ↓rT_cst, ↓rT_ife, ↓rI_seq, ↓rI_rng1, ↓rI_zip, ↓rB_nil, ↓rB_cons, ↓rS_asg, ↓rS_par, ↓rS_ex, ↓rS_ret, ↓rS_retN, ↓rS_iff, ↓rS_for, ↓rS_whl, ↓rS_rse, ↓rS_app, ↓rS_ext, ↓rS_sub, ↓run_pure, ↓run_bind, ↓run_ok, ↓run_exn, ↓run_bad, ↓r_getV, ↓got_some, ↓got_none, ↓got_map, ↓got_ite, ↓kB_bl, ↓gets_fz, ↓gets_un, ↓gets_tu, ↓movs_fz, ↓movs_un, ↓movs_tu, ↓next_next, ↓next_ret, ↓next_brk, ↓next_cnt, ↓ret_ret, ↓ret_exn, ↓ret_bad, ↓run_ite, ↓run_iteo, ↓run_of, ↓fin_ret, ↓fin_next, ↓finX_eq, ↓run_mbad, slot, rds, AV.rd, Own.simple, sv, Prim.run, Prim.ints, fzv, newl, outs, asgP, setAll, tupV, ownT, lstV, itemV, seqOf, lstOf, intOf, p_add, p_sub, p_mul, p_mod, p_fdiv, p_pow, p_neg, p_lt, p_le, p_gt, p_ge, p_isNone, p_notNone, p_idx, p_slLo, p_slHi, p_len, p_tuple, p_list, p_max2, p_min2, p_abs, p_int_, D.flat, passA, backA, takeA, frzA, List.getElem?_cons_zero, List.getElem?_cons_succ, Option.bind_some, Option.bind_none, id_eq, ↓reduceIte, List.map_cons, List.map_nil, List.cons_append, List.nil_append, List.replicate, List.set_cons_zero, List.set_cons_succ, and_true, true_and, and_self, eq_self, List.length_cons, List.length_nil, Nat.reduceAdd, Nat.reduceLeDiff, Nat.reduceLT, Bool.true_eq_false, Bool.false_eq_true, decide_true, decide_false, if_true, if_false, decide_eq_true_eq, Bool.and_eq_true, Bool.or_eq_true, List.all_cons, List.all_nil, Bool.and_true, Bool.and_self, p_all_, bls_bools?, Option.map_some, this, Bool.not_true]
theorem step_on {P : Prg} (h : HasSub P) (n : Nat) (b m : Int) (hb : b + m ≤ 500) : callF P (n + 1) "step_on" [(.int b, .fz), (.int m, .fz)] = .ret (.int (b + m), .fz) [] := by
  refine Ret.eq (call_run h.step rfl ?_)
  have c : ¬ (500 < b + m) := by omega
  simp only [fd_step_on, ↓rE_cst, ↓rE_glb, ↓rE_var, ↓rE_mov, ↓rE_tup, ↓rE_lst, ↓rE_op, ↓rE_ife, ↓rE_and, ↓rE_or, ↓rE_not, ↓rE_chain, ↓rE_call, ↓rE_mth, ↓rE_comp, ↓rE_dsp, ↓rO_var, ↓rO_op, ↓rO_cst, ↓rO_glb, ↓rO_mov, ↓rO_tup, ↓rO_lst, ↓rO_ife, ↓rO_and, ↓rO_or, ↓rO_not, ↓rO_chain, ↓rO_mth, ↓rO_call, ↓rO_comp, ↓rO_dsp, ↓rA_nil, ↓rA_cons, ↓rL_nil, ↓rL_cons, ↓rT_and, ↓rT_or, ↓rT_not, ↓rT_var, ↓rT_op, ↓rT_chain, ↓rT_call, ↓rT_cst, ↓rT_ife, ↓rI_seq, ↓rI_rng1, ↓rI_zip, ↓rB_nil, ↓rB_cons, ↓rS_asg, ↓rS_par, ↓rS_ex, ↓rS_ret, ↓rS_retN, ↓rS_iff, ↓rS_for, ↓rS_whl, ↓rS_rse, ↓rS_app, ↓rS_ext, ↓rS_sub, ↓run_pure, ↓run_bind, ↓run_ok, ↓run_exn, ↓run_bad, ↓r_getV, ↓got_some, ↓got_none, ↓got_map, ↓got_ite, ↓kB_bl, ↓gets_fz, ↓gets_un, ↓gets_tu, ↓movs_fz, ↓movs_un, ↓movs_tu, ↓next_next, ↓next_ret, ↓next_brk, ↓next_cnt, ↓ret_ret, ↓ret_exn, ↓ret_bad, ↓run_ite, ↓run_iteo, ↓run_of, ↓fin_ret, ↓fin_next, ↓finX_eq, ↓run_mbad, slot, rds, AV.rd, Own.simple, sv, Prim.run, Prim.ints, fzv, newl, outs, asgP, setAll, tupV, ownT, lstV, itemV, seqOf, lstOf, intOf, p_add, p_sub, p_mul, p_mod, p_fdiv, p_pow, p_neg, p_lt, p_le, p_gt, p_ge, p_isNone, p_notNone, p_idx, p_slLo, p_slHi, p_len, p_tuple, p_list, p_max2, p_min2, p_abs, p_int_, D.flat, passA, backA, takeA, frzA, List.getElem?_cons_zero, List.getElem?_cons_succ, Option.bind_some, Option.bind_none, id_eq, ↓reduceIte, List.map_cons, List.map_nil, List.cons_append, List.nil_append, List.replicate, List.set_cons_zero, List.set_cons_succ, and_true, true_and, and_self, eq_self, List.length_cons, List.length_nil, Nat.reduceAdd, Nat.reduceLeDiff, Nat.reduceLT, Bool.true_eq_false, Bool.false_eq_true, decide_true, decide_false, if_true, if_false, decide_eq_true_eq, Bool.and_eq_true, Bool.or_eq_true, List.all_cons, List.all_nil, Bool.and_true, Bool.and_self, cfg_gc, h.gB, c]
mutual
def Row.lin : Row → Prop
  | .sum _ _ _ _ => True
  | .zero _ => True
  | .iff _ _ _ => False
  | .whl _ _ => False
  | .beside x y => x.lin ∧ y.lin
def Rows.lin : Rows → Prop
  | .nil => True
  | .cons r rs => r.lin ∧ rs.lin
end
def sgn (l : Bool) : Int := if l then -1 else 1
mutual
def Row.act : Row → List Int → List Int
  | .sum l a b m, xs => xs.set a.toNat (xs.getD a.toNat 0 + sgn l * m * xs.getD b.toNat 0)
  | .zero a, xs => xs.set a.toNat 0
  | .iff _ _ _, xs => xs
  | .whl _ _, xs => xs
  | .beside x y, xs => y.act (x.act xs)
def Rows.act : Rows → List Int → List Int
  | .nil, xs => xs
  | .cons r rs, xs => rs.act (r.act xs)
end
mutual
def Row.bts : Row → Int
  | .sum _ _ _ m => m
  | .zero _ => 1
  | .iff _ _ _ => 0
  | .whl _ _ => 0
  | .beside x y => max x.bts y.bts + 1
def Rows.bts : Rows → Int
  | .nil => 0
  | .cons r rs => r.bts + rs.bts
end
mutual
theorem Row.bts_le : ∀ (r : Row) (d : Nat), r.ok d → 0 ≤ r.bts ∧ r.bts ≤ 9 * r.cnt
  | .sum _ _ _ m, d, h => by rw [Row.ok] at h; rw [Row.bts, Row.cnt]; omega
  | .zero _, d, h => by rw [Row.bts, Row.cnt]; omega
  | .iff _ _ _, d, h => by rw [Row.bts]; omega
  | .whl _ _, d, h => by rw [Row.bts]; omega
  | .beside x y, d, h => by
    rw [Row.ok] at h
    have h1 := Rows.bts_le x _ h.2.1
    have h2 := Rows.bts_le y _ h.2.2.1
    rw [Row.bts, Row.cnt]; omega
theorem Rows.bts_le : ∀ (r : Rows) (d : Nat), r.ok d → 0 ≤ r.bts ∧ r.bts ≤ 9 * r.cnt
  | .nil, d, h => by rw [Rows.bts, Rows.cnt]; omega
  | .cons r rs, d, h => by
    rw [Rows.ok] at h
    have h1 := Row.bts_le r _ h.1
    have h2 := Rows.bts_le rs _ h.2
    rw [Rows.bts, Rows.cnt]; omega
end
mutual
theorem Row.act_len : ∀ (r : Row) (xs : List Int), (r.act xs).length = xs.length
  | .sum _ _ _ _, xs => by rw [Row.act, List.length_set]
  | .zero _, xs => by rw [Row.act, List.length_set]
  | .iff _ _ _, xs => by rw [Row.act]
  | .whl _ _, xs => by rw [Row.act]
  | .beside x y, xs => by rw [Row.act, Rows.act_len y, Rows.act_len x]
theorem Rows.act_len : ∀ (r : Rows) (xs : List Int), (r.act xs).length = xs.length
  | .nil, xs => by rw [Rows.act]
  | .cons r rs, xs => by rw [Rows.act, Rows.act_len rs, Row.act_len r]
end
theorem at_ints {xs : List Int} {a : Int} (h0 : 0 ≤ a) (h1 : a < xs.length) : atI (intsD xs) a = some (.int (xs.getD a.toNat 0)) := by
  obtain ⟨v, e, q⟩ := atI_some (xs := intsD xs) (k := a) h0 (by unfold intsD; rw [List.length_map]; exact h1)
  rw [e]
  obtain ⟨w, rfl, g⟩ := ints_get q
  rw [List.getD_eq_getElem?_getD, g]; rfl
theorem ix_ints {xs : List Int} {a : Int} (h0 : 0 ≤ a) (h1 : a < xs.length) : ixN (intsD xs).length a = some a.toNat := by
  unfold ixN intsD
  rw [List.length_map, if_pos h0, if_pos h1]
theorem ints_set (xs : List Int) (i : Nat) (v : Int) : (intsD xs).set i (.int v) = intsD (xs.set i v) := by
  unfold intsD; rw [List.map_set]
theorem at3 (w z y x : D) (xs : List D) : atI (w :: z :: y :: x :: xs) 3 = some x := by
  obtain ⟨v, e, q⟩ := atI_some (xs := w :: z :: y :: x :: xs) (k := 3) (by decide) (by simp only [List.length_cons]; omega)
  rw [e]; simpa using q.symm
end Py

set_option Elab.async false
set_option linter.all false
set_option maxRecDepth 100000
set_option maxHeartbeats 4000000
namespace Py
open PySem
def nums (xs : List Int) : Val := (.lst (intsD xs), .un .fz)
def RowDone (P : Prg) (D0 : Nat) : Prop := ∀ (N : Nat) (r : Row) (d : Nat) (xs : List Int) (b : Int), 2 * D0 + 2 ≤ N → r.dep ≤ D0 → r.ok d → r.lin → xs.length = 6 → b + 9 * r.cnt ≤ 500 →
  callF P N "row_done" [(r.enc, .fz), nums xs, (.int b, .fz)] = .ret (.int (b + r.bts), .fz) [nums (r.act xs)]
def RowsDone (P : Prg) (D0 : Nat) : Prop := ∀ (N : Nat) (r : Rows) (d : Nat) (xs : List Int) (b : Int), 2 * D0 + 3 ≤ N → r.dep ≤ D0 → r.ok d → r.lin → xs.length = 6 → b + 9 * r.cnt ≤ 500 →
  callF P N "rows_done" [(.tup r.encs, .fz), nums xs, (.int b, .fz)] = .ret (.int (b + r.bts), .fz) [nums (r.act xs)]
theorem rows_of_rowD {P : Prg} (h : HasSub P) {D0 : Nat} (hr : RowDone P D0) : RowsDone P D0 := by
  intro N rs d xs b hN hd ho hl hx hb
  obtain ⟨N, rfl⟩ : ∃ M, N = M + 1 := ⟨N - 1, by omega⟩
  refine Ret.eq (call_run h.rdone rfl ?_)
  unfold nums
  simp only [fd_rows_done, ↓rE_cst, ↓rE_glb, ↓rE_var, ↓rE_mov, ↓rE_tup, ↓rE_lst, ↓rE_op, ↓rE_ife, ↓rE_and, ↓rE_or, ↓rE_not, ↓rE_chain, ↓rE_call, ↓rE_mth, ↓rE_comp, ↓rE_dsp, ↓rO_var, ↓rO_op, ↓rO_cst, ↓rO_glb, ↓rO_mov, ↓rO_tup, ↓rO_lst, ↓rO_ife, ↓rO_and, ↓rO_or, ↓rO_not, ↓rO_chain, ↓rO_mth, ↓rO_call, ↓rO_comp, ↓rO_dsp, ↓rA_nil, ↓rA_cons, ↓rL_nil, ↓rL_cons, ↓rT_and, ↓rT_or, ↓rT_not, ↓rT_var, ↓rT_op, ↓rT_chain, ↓rT_call, ↓rT_cst, ↓rT_ife, ↓rI_seq, ↓rI_rng1, ↓rI_zip, ↓rB_nil, ↓rB_cons, ↓rS_asg, ↓rS_par, ↓rS_ex, ↓rS_ret, ↓rS_retN, ↓rS_iff, ↓rS_for, ↓rS_whl, ↓rS_rse, ↓rS_app, ↓rS_ext, ↓rS_sub, ↓run_pure, ↓run_bind, ↓run_ok, ↓run_exn, ↓run_bad, ↓r_getV, ↓got_some, ↓got_none, ↓got_map, ↓got_ite, ↓kB_bl, ↓gets_fz, ↓gets_un, ↓gets_tu, ↓movs_fz, ↓movs_un, ↓movs_tu, ↓next_next, ↓next_ret, ↓next_brk, ↓next_cnt, ↓ret_ret, ↓ret_exn, ↓ret_bad, ↓run_ite, ↓run_iteo, ↓run_of, ↓fin_ret, ↓fin_next, ↓finX_eq, ↓run_mbad, slot, rds, AV.rd, Own.simple, sv, Prim.run, Prim.ints, fzv, newl, outs, asgP, setAll, tupV, ownT, lstV, itemV, seqOf, lstOf, intOf, p_add, p_sub, p_mul, p_mod, p_fdiv, p_pow, p_neg, p_lt, p_le, p_gt, p_ge, p_isNone, p_notNone, p_idx, p_slLo, p_slHi, p_len, p_tuple, p_list, p_max2, p_min2, p_abs, p_int_, D.flat, passA, backA, takeA, frzA, List.getElem?_cons_zero, List.getElem?_cons_succ, Option.bind_some, Option.bind_none, id_eq, ↓reduceIte, List.map_cons, List.map_nil, List.cons_append, List.nil_append, List.replicate, List.set_cons_zero, List.set_cons_succ, and_true, true_and, and_self, eq_self, List.length_cons, List.length_nil, Nat.reduceAdd, Nat.reduceLeDiff, Nat.reduceLT, Bool.true_eq_false, Bool.false_eq_true, decide_true, decide_false, if_true, if_false, decide_eq_true_eq, Bool.and_eq_true, Bool.or_eq_true, List.all_cons, List.all_nil, Bool.and_true, Bool.and_self]
  refine run_for (fun r τ => ∃ (z : Option Val) (rr : Rows) (ys : List Int) (c : Int), τ = [some (.tup rs.encs, .fz), some (.lst (intsD ys), .un .fz), some (.int c, .fz), z] ∧ r = rr.encs ∧ rr.dep ≤ D0 ∧ rr.ok d ∧ rr.lin ∧ ys.length = 6 ∧ c + 9 * rr.cnt ≤ 500 ∧ rr.act ys = rs.act xs ∧ c + rr.bts = b + rs.bts) ?_ ?_ _ _ ⟨none, rs, xs, b, rfl, rfl, hd, ho, hl, hx, hb, rfl, rfl⟩
  · rintro x r τ ⟨z, rr, ys, c, rfl, hr', hd, ho, hl, hy, hc, ha, hbt⟩
    cases rr with
    | nil => rw [Rows.encs] at hr'; cases hr'
    | cons row rr =>
      rw [Rows.encs] at hr'
      cases hr'
      rw [Rows.dep] at hd
      rw [Rows.ok] at ho
      rw [Rows.lin] at hl
      rw [Rows.cnt] at hc
      rw [Rows.act] at ha
      rw [Rows.bts] at hbt
      have hbl := Row.bts_le row d ho.1
      have e := hr N row d ys c (by omega) (by omega) ho.1 hl.1 hy (by omega)
      unfold nums at e
      simp only [↓rE_cst, ↓rE_glb, ↓rE_var, ↓rE_mov, ↓rE_tup, ↓rE_lst, ↓rE_op, ↓rE_ife, ↓rE_and, ↓rE_or, ↓rE_not, ↓rE_chain, ↓rE_call, ↓rE_mth, ↓rE_comp, ↓rE_dsp, ↓rO_var, ↓rO_op, ↓rO_cst, ↓rO_glb, ↓rO_mov, ↓rO_tup, ↓rO_lst, ↓rO_ife, ↓rO_and, ↓rO_or, ↓rO_not, ↓rO_chain, ↓rO_mth, ↓rO_call, ↓rO_comp, ↓rO_dsp, ↓rA_nil, ↓rA_cons, ↓rL_nil, ↓rL_cons, ↓rT_and, ↓rT_or, ↓rT_not, ↓rT_var, ↓rT_op, ↓rT_chain, ↓rT_call, ↓rT_cst, ↓rT_ife, ↓rI_seq, ↓rI_rng1, ↓rI_zip, ↓rB_nil, ↓rB_cons, ↓rS_asg, ↓rS_par, ↓rS_ex, ↓rS_ret, ↓rS_retN, ↓rS_iff, ↓rS_for, ↓rS_whl, ↓rS_rse, ↓rS_app, ↓rS_ext, ↓rS_sub, ↓run_pure, ↓run_bind, ↓run_ok, ↓run_exn, ↓run_bad, ↓r_getV, ↓got_some, ↓got_none, ↓got_map, ↓got_ite, ↓kB_bl, ↓gets_fz, ↓gets_un, ↓gets_tu, ↓movs_fz, ↓movs_un, ↓movs_tu, ↓next_next, ↓next_ret, ↓next_brk, ↓next_cnt, ↓ret_ret, ↓ret_exn, ↓ret_bad, ↓run_ite, ↓run_iteo, ↓run_of, ↓fin_ret, ↓fin_next, ↓finX_eq, ↓run_mbad, slot, rds, AV.rd, Own.simple, sv, Prim.run, Prim.ints, fzv, newl, outs, asgP, setAll, tupV, ownT, lstV, itemV, seqOf, lstOf, intOf, p_add, p_sub, p_mul, p_mod, p_fdiv, p_pow, p_neg, p_lt, p_le, p_gt, p_ge, p_isNone, p_notNone, p_idx, p_slLo, p_slHi, p_len, p_tuple, p_list, p_max2, p_min2, p_abs, p_int_, D.flat, passA, backA, takeA, frzA, List.getElem?_cons_zero, List.getElem?_cons_succ, Option.bind_some, Option.bind_none, id_eq, ↓reduceIte, List.map_cons, List.map_nil, List.cons_append, List.nil_append, List.replicate, List.set_cons_zero, List.set_cons_succ, and_true, true_and, and_self, eq_self, List.length_cons, List.length_nil, Nat.reduceAdd, Nat.reduceLeDiff, Nat.reduceLT, Bool.true_eq_false, Bool.false_eq_true, decide_true, decide_false, if_true, if_false, decide_eq_true_eq, Bool.and_eq_true, Bool.or_eq_true, List.all_cons, List.all_nil, Bool.and_true, Bool.and_self, ↓run_callG h.rowd, ↓io_row_done, e]
      exact ⟨_, rr, row.act ys, c + row.bts, rfl, rfl, by omega, ho.2, hl.2, by rw [Row.act_len, hy], by omega, ha, by omega⟩
  · rintro τ ⟨z, rr, ys, c, rfl, hr', hd, ho, hl, hy, hc, ha, hbt⟩
    cases rr with
    | cons row rr => rw [Rows.encs] at hr'; cases hr'
    | nil =>
      rw [Rows.act] at ha
      rw [Rows.bts] at hbt
      subst ha
      have : c = b + rs.bts := by omega
      subst this
      simp only [↓rE_cst, ↓rE_glb, ↓rE_var, ↓rE_mov, ↓rE_tup, ↓rE_lst, ↓rE_op, ↓rE_ife, ↓rE_and, ↓rE_or, ↓rE_not, ↓rE_chain, ↓rE_call, ↓rE_mth, ↓rE_comp, ↓rE_dsp, ↓rO_var, ↓rO_op, ↓rO_cst, ↓rO_glb, ↓rO_mov, ↓rO_tup, ↓rO_lst, ↓rO_ife, ↓rO_and, ↓rO_or, ↓rO_not, ↓rO_chain, ↓rO_mth, ↓rO_call, ↓rO_comp, ↓rO_dsp, ↓rA_nil, ↓rA_cons, ↓rL_nil, ↓rL_cons, ↓rT_and, ↓rT_or, ↓rT_not, ↓rT_var, ↓rT_op, ↓rT_chain, ↓rT_call, ↓rT_cst, ↓rT_ife, ↓rI_seq, ↓rI_rng1, ↓rI_zip, ↓rB_nil, ↓rB_cons, ↓rS_asg, ↓rS_par, ↓rS_ex, ↓rS_ret, ↓rS_retN, ↓rS_iff, ↓rS_for, ↓rS_whl, ↓rS_rse, ↓rS_app, ↓rS_ext, ↓rS_sub, ↓run_pure, ↓run_bind, ↓run_ok, ↓run_exn, ↓run_bad, ↓r_getV, ↓got_some, ↓got_none, ↓got_map, ↓got_ite, ↓kB_bl, ↓gets_fz, ↓gets_un, ↓gets_tu, ↓movs_fz, ↓movs_un, ↓movs_tu, ↓next_next, ↓next_ret, ↓next_brk, ↓next_cnt, ↓ret_ret, ↓ret_exn, ↓ret_bad, ↓run_ite, ↓run_iteo, ↓run_of, ↓fin_ret, ↓fin_next, ↓finX_eq, ↓run_mbad, slot, rds, AV.rd, Own.simple, sv, Prim.run, Prim.ints, fzv, newl, outs, asgP, setAll, tupV, ownT, lstV, itemV, seqOf, lstOf, intOf, p_add, p_sub, p_mul, p_mod, p_fdiv, p_pow, p_neg, p_lt, p_le, p_gt, p_ge, p_isNone, p_notNone, p_idx, p_slLo, p_slHi, p_len, p_tuple, p_list, p_max2, p_min2, p_abs, p_int_, D.flat, passA, backA, takeA, frzA, List.getElem?_cons_zero, List.getElem?_cons_succ, Option.bind_some, Option.bind_none, id_eq, ↓reduceIte, List.map_cons, List.map_nil, List.cons_append, List.nil_append, List.replicate, List.set_cons_zero, List.set_cons_succ, and_true, true_and, and_self, eq_self, List.length_cons, List.length_nil, Nat.reduceAdd, Nat.reduceLeDiff, Nat.reduceLT, Bool.true_eq_false, Bool.false_eq_true, decide_true, decide_false, if_true, if_false, decide_eq_true_eq, Bool.and_eq_true, Bool.or_eq_true, List.all_cons, List.all_nil, Bool.and_true, Bool.and_self]
theorem tight_of {i : Int} (h : -1000 ≤ i ∧ i ≤ 1000) : tight i = true := by
  unfold tight
  have h1 : (1000 : Int) < 2 ^ 64 := by decide
  have h2 : -(2 ^ 64) < (-1000 : Int) := by decide
  simp only [Bool.and_eq_true, decide_eq_true_eq]
  exact ⟨Int.lt_of_lt_of_le h2 h.1, Int.lt_of_le_of_lt h.2 h1⟩
theorem row_sum {P : Prg} (h : HasSub P) (n : Nat) (l : Bool) (a b m : Int) (xs : List Int) (c : Int) (ha : 0 ≤ a ∧ a ≤ 5) (hb : 0 ≤ b ∧ b ≤ 5) (hm : 1 ≤ m ∧ m ≤ 9) (hx : xs.length = 6) (hc : c + 9 ≤ 500) :
    callF P (n + 2) "row_done" [((Row.sum l a b m).enc, .fz), nums xs, (.int c, .fz)] = .ret (.int (c + m), .fz) [nums ((Row.sum l a b m).act xs)] := by
  refine Ret.eq (call_run h.rowd rfl ?_)
  have e := step_on h n c m (by omega)
  have i1 := at_ints (xs := xs) ha.1 (by omega)
  have i2 := at_ints (xs := xs) hb.1 (by omega)
  have i3 := ix_ints (xs := xs) ha.1 (by omega)
  have t1 : tight 1 = true := tight_of (by decide)
  have t2 : tight (-1) = true := tight_of (by decide)
  have t3 : tight (1 * m) = true := tight_of (by omega)
  have t4 : tight (-1 * m) = true := tight_of (by omega)
  have b2 : 2 ≤ big := by decide
  cases l
  all_goals
    unfold nums
    simp only [Row.enc, Row.act, sgn, fd_row_done, ↓rE_cst, ↓rE_glb, ↓rE_var, ↓rE_mov, ↓rE_tup, ↓rE_lst, ↓rE_op, ↓rE_ife, ↓rE_and, ↓rE_or, ↓rE_not, ↓rE_chain, ↓rE_call, ↓rE_mth, ↓rE_comp, ↓rE_dsp, ↓rO_var, ↓rO_op, ↓rO_cst, ↓rO_glb, ↓rO_mov, ↓rO_tup, ↓rO_lst, ↓rO_ife, ↓rO_and, ↓rO_or, ↓rO_not, ↓rO_chain, ↓rO_mth, ↓rO_call, ↓rO_comp, ↓rO_dsp, ↓rA_nil, ↓rA_cons, ↓rL_nil, ↓rL_cons, ↓rT_and, ↓rT_or, ↓rT_not, ↓rT_var, ↓rT_op, ↓rT_chain, ↓rT_call, ↓rT_cst, ↓rT_ife, ↓rI_seq, ↓rI_rng1, ↓rI_zip, ↓rB_nil, ↓rB_cons, ↓rS_asg, ↓rS_par, ↓rS_ex, ↓rS_ret, ↓rS_retN, ↓rS_iff, ↓rS_for, ↓rS_whl, ↓rS_rse, ↓rS_app, ↓rS_ext, ↓rS_sub, ↓run_pure, ↓run_bind, ↓run_ok, ↓run_exn, ↓run_bad, ↓r_getV, ↓got_some, ↓got_none, ↓got_map, ↓got_ite, ↓kB_bl, ↓gets_fz, ↓gets_un, ↓gets_tu, ↓movs_fz, ↓movs_un, ↓movs_tu, ↓next_next, ↓next_ret, ↓next_brk, ↓next_cnt, ↓ret_ret, ↓ret_exn, ↓ret_bad, ↓run_ite, ↓run_iteo, ↓run_of, ↓fin_ret, ↓fin_next, ↓finX_eq, ↓run_mbad, slot, rds, AV.rd, Own.simple, sv, Prim.run, Prim.ints, fzv, newl, outs, asgP, setAll, tupV, ownT, lstV, itemV, seqOf, lstOf, intOf, p_add, p_sub, p_mul, p_mod, p_fdiv, p_pow, p_neg, p_lt, p_le, p_gt, p_ge, p_isNone, p_notNone, p_idx, p_slLo, p_slHi, p_len, p_tuple, p_list, p_max2, p_min2, p_abs, p_int_, D.flat, passA, backA, takeA, frzA, List.getElem?_cons_zero, List.getElem?_cons_succ, Option.bind_some, Option.bind_none, id_eq, ↓reduceIte, List.map_cons, List.map_nil, List.cons_append, List.nil_append, List.replicate, List.set_cons_zero, List.set_cons_succ, and_true, true_and, and_self, eq_self, List.length_cons, List.length_nil, Nat.reduceAdd, Nat.reduceLeDiff, Nat.reduceLT, Bool.true_eq_false, Bool.false_eq_true, decide_true, decide_false, if_true, if_false, decide_eq_true_eq, Bool.and_eq_true, Bool.or_eq_true, List.all_cons, List.all_nil, Bool.and_true, Bool.and_self, p_eq, at0, at1, at2, at3, in_2, se_add_add, se_add_less, se_add_zero, se_add_if, se_add_while, se_add_beside, se_less_add, se_less_less, se_less_zero, se_less_if, se_less_while, se_less_beside, se_zero_add, se_zero_less, se_zero_zero, se_zero_if, se_zero_while, se_zero_beside, se_if_add, se_if_less, se_if_zero, se_if_if, se_if_while, se_if_beside, se_while_add, se_while_less, se_while_zero, se_while_if, se_while_while, se_while_beside, se_beside_add, se_beside_less, se_beside_zero, se_beside_if, se_beside_while, se_beside_beside, ss_add_less, ss_add_zero, ss_add_if, ss_add_while, ss_add_beside, ss_less_add, ss_less_zero, ss_less_if, ss_less_while, ss_less_beside, ss_zero_add, ss_zero_less, ss_zero_if, ss_zero_while, ss_zero_beside, ss_if_add, ss_if_less, ss_if_zero, ss_if_while, ss_if_beside, ss_while_add, ss_while_less, ss_while_zero, ss_while_if, ss_while_beside, ss_beside_add, ss_beside_less, ss_beside_zero, ss_beside_if, ss_beside_while, Bool.or_true, Bool.true_or, Bool.or_false, beq_self_eq_true, Option.map_some, i1, i2, t1, t2, t3, t4, Bool.true_or, b2, Int.reduceNeg]
    refine ⟨⟨_, _, rfl⟩, _, _, _, _, rfl, rfl, ?_⟩
    simp only [↓rE_cst, ↓rE_glb, ↓rE_var, ↓rE_mov, ↓rE_tup, ↓rE_lst, ↓rE_op, ↓rE_ife, ↓rE_and, ↓rE_or, ↓rE_not, ↓rE_chain, ↓rE_call, ↓rE_mth, ↓rE_comp, ↓rE_dsp, ↓rO_var, ↓rO_op, ↓rO_cst, ↓rO_glb, ↓rO_mov, ↓rO_tup, ↓rO_lst, ↓rO_ife, ↓rO_and, ↓rO_or, ↓rO_not, ↓rO_chain, ↓rO_mth, ↓rO_call, ↓rO_comp, ↓rO_dsp, ↓rA_nil, ↓rA_cons, ↓rL_nil, ↓rL_cons, ↓rT_and, ↓rT_or, ↓rT_not, ↓rT_var, ↓rT_op, ↓rT_chain, ↓rT_call, ↓rT_cst, ↓rT_ife, ↓rI_seq, ↓rI_rng1, ↓rI_zip, ↓rB_nil, ↓rB_cons, ↓rS_asg, ↓rS_par, ↓rS_ex, ↓rS_ret, ↓rS_retN, ↓rS_iff, ↓rS_for, ↓rS_whl, ↓rS_rse, ↓rS_app, ↓rS_ext, ↓rS_sub, ↓run_pure, ↓run_bind, ↓run_ok, ↓run_exn, ↓run_bad, ↓r_getV, ↓got_some, ↓got_none, ↓got_map, ↓got_ite, ↓kB_bl, ↓gets_fz, ↓gets_un, ↓gets_tu, ↓movs_fz, ↓movs_un, ↓movs_tu, ↓next_next, ↓next_ret, ↓next_brk, ↓next_cnt, ↓ret_ret, ↓ret_exn, ↓ret_bad, ↓run_ite, ↓run_iteo, ↓run_of, ↓fin_ret, ↓fin_next, ↓finX_eq, ↓run_mbad, slot, rds, AV.rd, Own.simple, sv, Prim.run, Prim.ints, fzv, newl, outs, asgP, setAll, tupV, ownT, lstV, itemV, seqOf, lstOf, intOf, p_add, p_sub, p_mul, p_mod, p_fdiv, p_pow, p_neg, p_lt, p_le, p_gt, p_ge, p_isNone, p_notNone, p_idx, p_slLo, p_slHi, p_len, p_tuple, p_list, p_max2, p_min2, p_abs, p_int_, D.flat, passA, backA, takeA, frzA, List.getElem?_cons_zero, List.getElem?_cons_succ, Option.bind_some, Option.bind_none, id_eq, ↓reduceIte, List.map_cons, List.map_nil, List.cons_append, List.nil_append, List.replicate, List.set_cons_zero, List.set_cons_succ, and_true, true_and, and_self, eq_self, List.length_cons, List.length_nil, Nat.reduceAdd, Nat.reduceLeDiff, Nat.reduceLT, Bool.true_eq_false, Bool.false_eq_true, decide_true, decide_false, if_true, if_false, decide_eq_true_eq, Bool.and_eq_true, Bool.or_eq_true, List.all_cons, List.all_nil, Bool.and_true, Bool.and_self, i3, ints_set, at3, ↓run_callG h.step, ↓io_step_on, e, Bool.false_eq_true, if_false, if_true]
theorem row_zero {P : Prg} (h : HasSub P) (n : Nat) (a : Int) (xs : List Int) (c : Int) (ha : 0 ≤ a ∧ a ≤ 5) (hx : xs.length = 6) (hc : c + 9 ≤ 500) :
    callF P (n + 2) "row_done" [((Row.zero a).enc, .fz), nums xs, (.int c, .fz)] = .ret (.int (c + 1), .fz) [nums ((Row.zero a).act xs)] := by
  refine Ret.eq (call_run h.rowd rfl ?_)
  have e := step_on h n c 1 (by omega)
  have i3 := ix_ints (xs := xs) ha.1 (by omega)
  have b2 : 2 ≤ big := by decide
  unfold nums
  simp only [Row.enc, Row.act, sgn, fd_row_done, ↓rE_cst, ↓rE_glb, ↓rE_var, ↓rE_mov, ↓rE_tup, ↓rE_lst, ↓rE_op, ↓rE_ife, ↓rE_and, ↓rE_or, ↓rE_not, ↓rE_chain, ↓rE_call, ↓rE_mth, ↓rE_comp, ↓rE_dsp, ↓rO_var, ↓rO_op, ↓rO_cst, ↓rO_glb, ↓rO_mov, ↓rO_tup, ↓rO_lst, ↓rO_ife, ↓rO_and, ↓rO_or, ↓rO_not, ↓rO_chain, ↓rO_mth, ↓rO_call, ↓rO_comp, ↓rO_dsp, ↓rA_nil, ↓rA_cons, ↓rL_nil, ↓rL_cons, ↓rT_and, ↓rT_or, ↓rT_not, ↓rT_var, ↓rT_op, ↓rT_chain, ↓rT_call, ↓rT_cst, ↓rT_ife, ↓rI_seq, ↓rI_rng1, ↓rI_zip, ↓rB_nil, ↓rB_cons, ↓rS_asg, ↓rS_par, ↓rS_ex, ↓rS_ret, ↓rS_retN, ↓rS_iff, ↓rS_for, ↓rS_whl, ↓rS_rse, ↓rS_app, ↓rS_ext, ↓rS_sub, ↓run_pure, ↓run_bind, ↓run_ok, ↓run_exn, ↓run_bad, ↓r_getV, ↓got_some, ↓got_none, ↓got_map, ↓got_ite, ↓kB_bl, ↓gets_fz, ↓gets_un, ↓gets_tu, ↓movs_fz, ↓movs_un, ↓movs_tu, ↓next_next, ↓next_ret, ↓next_brk, ↓next_cnt, ↓ret_ret, ↓ret_exn, ↓ret_bad, ↓run_ite, ↓run_iteo, ↓run_of, ↓fin_ret, ↓fin_next, ↓finX_eq, ↓run_mbad, slot, rds, AV.rd, Own.simple, sv, Prim.run, Prim.ints, fzv, newl, outs, asgP, setAll, tupV, ownT, lstV, itemV, seqOf, lstOf, intOf, p_add, p_sub, p_mul, p_mod, p_fdiv, p_pow, p_neg, p_lt, p_le, p_gt, p_ge, p_isNone, p_notNone, p_idx, p_slLo, p_slHi, p_len, p_tuple, p_list, p_max2, p_min2, p_abs, p_int_, D.flat, passA, backA, takeA, frzA, List.getElem?_cons_zero, List.getElem?_cons_succ, Option.bind_some, Option.bind_none, id_eq, ↓reduceIte, List.map_cons, List.map_nil, List.cons_append, List.nil_append, List.replicate, List.set_cons_zero, List.set_cons_succ, and_true, true_and, and_self, eq_self, List.length_cons, List.length_nil, Nat.reduceAdd, Nat.reduceLeDiff, Nat.reduceLT, Bool.true_eq_false, Bool.false_eq_true, decide_true, decide_false, if_true, if_false, decide_eq_true_eq, Bool.and_eq_true, Bool.or_eq_true, List.all_cons, List.all_nil, Bool.and_true, Bool.and_self, p_eq, at0, at1, at2, at3, in_2, se_add_add, se_add_less, se_add_zero, se_add_if, se_add_while, se_add_beside, se_less_add, se_less_less, se_less_zero, se_less_if, se_less_while, se_less_beside, se_zero_add, se_zero_less, se_zero_zero, se_zero_if, se_zero_while, se_zero_beside, se_if_add, se_if_less, se_if_zero, se_if_if, se_if_while, se_if_beside, se_while_add, se_while_less, se_while_zero, se_while_if, se_while_while, se_while_beside, se_beside_add, se_beside_less, se_beside_zero, se_beside_if, se_beside_while, se_beside_beside, ss_add_less, ss_add_zero, ss_add_if, ss_add_while, ss_add_beside, ss_less_add, ss_less_zero, ss_less_if, ss_less_while, ss_less_beside, ss_zero_add, ss_zero_less, ss_zero_if, ss_zero_while, ss_zero_beside, ss_if_add, ss_if_less, ss_if_zero, ss_if_while, ss_if_beside, ss_while_add, ss_while_less, ss_while_zero, ss_while_if, ss_while_beside, ss_beside_add, ss_beside_less, ss_beside_zero, ss_beside_if, ss_beside_while, Bool.or_true, Bool.true_or, Bool.or_false, beq_self_eq_true, Option.map_some, Bool.true_or, b2]
  refine ⟨⟨_, _, rfl⟩, _, _, _, _, rfl, rfl, ?_⟩
  simp only [↓rE_cst, ↓rE_glb, ↓rE_var, ↓rE_mov, ↓rE_tup, ↓rE_lst, ↓rE_op, ↓rE_ife, ↓rE_and, ↓rE_or, ↓rE_not, ↓rE_chain, ↓rE_call, ↓rE_mth, ↓rE_comp, ↓rE_dsp, ↓rO_var, ↓rO_op, ↓rO_cst, ↓rO_glb, ↓rO_mov, ↓rO_tup, ↓rO_lst, ↓rO_ife, ↓rO_and, ↓rO_or, ↓rO_not, ↓rO_chain, ↓rO_mth, ↓rO_call, ↓rO_comp, ↓rO_dsp, ↓rA_nil, ↓rA_cons, ↓rL_nil, ↓rL_cons, ↓rT_and, ↓rT_or, ↓rT_not, ↓rT_var, ↓rT_op, ↓rT_chain, ↓rT_call, ↓rT_cst, ↓rT_ife, ↓rI_seq, ↓rI_rng1, ↓rI_zip, ↓rB_nil, ↓rB_cons, ↓rS_asg, ↓rS_par, ↓rS_ex, ↓rS_ret, ↓rS_retN, ↓rS_iff, ↓rS_for, ↓rS_whl, ↓rS_rse, ↓rS_app, ↓rS_ext, ↓rS_sub, ↓run_pure, ↓run_bind, ↓run_ok, ↓run_exn, ↓run_bad, ↓r_getV, ↓got_some, ↓got_none, ↓got_map, ↓got_ite, ↓kB_bl, ↓gets_fz, ↓gets_un, ↓gets_tu, ↓movs_fz, ↓movs_un, ↓movs_tu, ↓next_next, ↓next_ret, ↓next_brk, ↓next_cnt, ↓ret_ret, ↓ret_exn, ↓ret_bad, ↓run_ite, ↓run_iteo, ↓run_of, ↓fin_ret, ↓fin_next, ↓finX_eq, ↓run_mbad, slot, rds, AV.rd, Own.simple, sv, Prim.run, Prim.ints, fzv, newl, outs, asgP, setAll, tupV, ownT, lstV, itemV, seqOf, lstOf, intOf, p_add, p_sub, p_mul, p_mod, p_fdiv, p_pow, p_neg, p_lt, p_le, p_gt, p_ge, p_isNone, p_notNone, p_idx, p_slLo, p_slHi, p_len, p_tuple, p_list, p_max2, p_min2, p_abs, p_int_, D.flat, passA, backA, takeA, frzA, List.getElem?_cons_zero, List.getElem?_cons_succ, Option.bind_some, Option.bind_none, id_eq, ↓reduceIte, List.map_cons, List.map_nil, List.cons_append, List.nil_append, List.replicate, List.set_cons_zero, List.set_cons_succ, and_true, true_and, and_self, eq_self, List.length_cons, List.length_nil, Nat.reduceAdd, Nat.reduceLeDiff, Nat.reduceLT, Bool.true_eq_false, Bool.false_eq_true, decide_true, decide_false, if_true, if_false, decide_eq_true_eq, Bool.and_eq_true, Bool.or_eq_true, List.all_cons, List.all_nil, Bool.and_true, Bool.and_self, i3, ints_set, at3, ↓run_callG h.step, ↓io_step_on, e]
theorem row_beside {P : Prg} (h : HasSub P) {D0 : Nat} (hr : RowsDone P D0) : RowDone P (D0 + 1) := by
  intro N r d xs b hN hd ho hl hx hb
  obtain ⟨N, rfl⟩ : ∃ M, N = M + 2 := ⟨N - 2, by omega⟩
  cases r with
  | sum l a b' m =>
    rw [Row.ok] at ho
    rw [Row.cnt] at hb
    exact row_sum h N l a b' m xs b ho.2.1 ho.2.2.1 ho.2.2.2.2 hx (by omega)
  | zero a =>
    rw [Row.ok] at ho
    rw [Row.cnt] at hb
    exact row_zero h N a xs b ho.2 hx (by omega)
  | iff a x y => rw [Row.lin] at hl; exact hl.elim
  | whl a x => rw [Row.lin] at hl; exact hl.elim
  | beside x y =>
    rw [Row.ok] at ho
    rw [Row.lin] at hl
    rw [Row.cnt] at hb
    rw [Row.dep] at hd
    have l1 := Rows.bts_le x _ ho.2.1
    have l2 := Rows.bts_le y _ ho.2.2.1
    have e1 := hr (N + 1) x _ xs b (by omega) (by omega) ho.2.1 hl.1 hx (by omega)
    have e2 := hr (N + 1) y _ (x.act xs) b (by omega) (by omega) ho.2.2.1 hl.2 (by rw [Rows.act_len, hx]) (by omega)
    have em : (if b + y.bts > b + x.bts then b + y.bts else b + x.bts) = b + max x.bts y.bts := by split <;> omega
    have e3 := step_on h N (b + max x.bts y.bts) 1 (by omega)
    have b2 : 2 ≤ big := by decide
    refine Ret.eq (call_run h.rowd rfl ?_)
    unfold nums at e1 e2 ⊢
    simp only [Row.enc, Row.act, Row.bts, fd_row_done, ↓rE_cst, ↓rE_glb, ↓rE_var, ↓rE_mov, ↓rE_tup, ↓rE_lst, ↓rE_op, ↓rE_ife, ↓rE_and, ↓rE_or, ↓rE_not, ↓rE_chain, ↓rE_call, ↓rE_mth, ↓rE_comp, ↓rE_dsp, ↓rO_var, ↓rO_op, ↓rO_cst, ↓rO_glb, ↓rO_mov, ↓rO_tup, ↓rO_lst, ↓rO_ife, ↓rO_and, ↓rO_or, ↓rO_not, ↓rO_chain, ↓rO_mth, ↓rO_call, ↓rO_comp, ↓rO_dsp, ↓rA_nil, ↓rA_cons, ↓rL_nil, ↓rL_cons, ↓rT_and, ↓rT_or, ↓rT_not, ↓rT_var, ↓rT_op, ↓rT_chain, ↓rT_call, ↓rT_cst, ↓rT_ife, ↓rI_seq, ↓rI_rng1, ↓rI_zip, ↓rB_nil, ↓rB_cons, ↓rS_asg, ↓rS_par, ↓rS_ex, ↓rS_ret, ↓rS_retN, ↓rS_iff, ↓rS_for, ↓rS_whl, ↓rS_rse, ↓rS_app, ↓rS_ext, ↓rS_sub, ↓run_pure, ↓run_bind, ↓run_ok, ↓run_exn, ↓run_bad, ↓r_getV, ↓got_some, ↓got_none, ↓got_map, ↓got_ite, ↓kB_bl, ↓gets_fz, ↓gets_un, ↓gets_tu, ↓movs_fz, ↓movs_un, ↓movs_tu, ↓next_next, ↓next_ret, ↓next_brk, ↓next_cnt, ↓ret_ret, ↓ret_exn, ↓ret_bad, ↓run_ite, ↓run_iteo, ↓run_of, ↓fin_ret, ↓fin_next, ↓finX_eq, ↓run_mbad, slot, rds, AV.rd, Own.simple, sv, Prim.run, Prim.ints, fzv, newl, outs, asgP, setAll, tupV, ownT, lstV, itemV, seqOf, lstOf, intOf, p_add, p_sub, p_mul, p_mod, p_fdiv, p_pow, p_neg, p_lt, p_le, p_gt, p_ge, p_isNone, p_notNone, p_idx, p_slLo, p_slHi, p_len, p_tuple, p_list, p_max2, p_min2, p_abs, p_int_, D.flat, passA, backA, takeA, frzA, List.getElem?_cons_zero, List.getElem?_cons_succ, Option.bind_some, Option.bind_none, id_eq, ↓reduceIte, List.map_cons, List.map_nil, List.cons_append, List.nil_append, List.replicate, List.set_cons_zero, List.set_cons_succ, and_true, true_and, and_self, eq_self, List.length_cons, List.length_nil, Nat.reduceAdd, Nat.reduceLeDiff, Nat.reduceLT, Bool.true_eq_false, Bool.false_eq_true, decide_true, decide_false, if_true, if_false, decide_eq_true_eq, Bool.and_eq_true, Bool.or_eq_true, List.all_cons, List.all_nil, Bool.and_true, Bool.and_self, p_eq, at0, at1, at2, at3, in_2, se_add_add, se_add_less, se_add_zero, se_add_if, se_add_while, se_add_beside, se_less_add, se_less_less, se_less_zero, se_less_if, se_less_while, se_less_beside, se_zero_add, se_zero_less, se_zero_zero, se_zero_if, se_zero_while, se_zero_beside, se_if_add, se_if_less, se_if_zero, se_if_if, se_if_while, se_if_beside, se_while_add, se_while_less, se_while_zero, se_while_if, se_while_while, se_while_beside, se_beside_add, se_beside_less, se_beside_zero, se_beside_if, se_beside_while, se_beside_beside, ss_add_less, ss_add_zero, ss_add_if, ss_add_while, ss_add_beside, ss_less_add, ss_less_zero, ss_less_if, ss_less_while, ss_less_beside, ss_zero_add, ss_zero_less, ss_zero_if, ss_zero_while, ss_zero_beside, ss_if_add, ss_if_less, ss_if_zero, ss_if_while, ss_if_beside, ss_while_add, ss_while_less, ss_while_zero, ss_while_if, ss_while_beside, ss_beside_add, ss_beside_less, ss_beside_zero, ss_beside_if, ss_beside_while, Bool.or_true, Bool.true_or, Bool.or_false, beq_self_eq_true, Option.map_some, b2, ↓run_callG h.rdone, ↓io_rows_done, e1, e2, em, ↓run_callG h.step, ↓io_step_on, e3, Int.add_assoc]
theorem rows_done {P : Prg} (h : HasSub P) : ∀ D0, RowsDone P D0
  | 0 => rows_of_rowD h fun N r d xs b hN hd ho hl hx hb => by
    obtain ⟨N, rfl⟩ : ∃ M, N = M + 2 := ⟨N - 2, by omega⟩
    cases r with
    | sum l a b' m =>
      rw [Row.ok] at ho
      rw [Row.cnt] at hb
      exact row_sum h N l a b' m xs b ho.2.1 ho.2.2.1 ho.2.2.2.2 hx (by omega)
    | zero a =>
      rw [Row.ok] at ho
      rw [Row.cnt] at hb
      exact row_zero h N a xs b ho.2 hx (by omega)
    | iff a x y => rw [Row.lin] at hl; exact hl.elim
    | whl a x => rw [Row.lin] at hl; exact hl.elim
    | beside x y => rw [Row.dep] at hd; omega
  | D0 + 1 => rows_of_rowD h (row_beside h (rows_done h D0))
theorem reckoned {P : Prg} (h : HasSub P) (N : Nat) (hN : 13 ≤ N) (rs : Rows) (ho : rs.ok 3) (hl : rs.lin) (hc : rs.cnt ≤ 12) (xs : List Int) (hx : xs.length = 6) (hb : ∀ x ∈ xs, -9999 ≤ x ∧ x ≤ 9999) :
    callF P N "reckoned" [(.tup rs.encs, .fz), (.tup (intsD xs), .fz)] = .ret (.tup [.tup (intsD (rs.act xs)), .int rs.bts], .fz) [] := by
  obtain ⟨N, rfl⟩ : ∃ M, N = M + 3 := ⟨N - 3, by omega⟩
  have e1 := need_rows h (N + 2) (by omega) rs ho hc
  have e2 := need_numbers h N xs hx hb
  have e3 := rows_done h 3 (N + 2) rs 3 xs 0 (by omega) (Rows.ok_dep rs 3 ho) ho hl hx (by omega)
  have b2 : 2 ≤ big := by decide
  refine Ret.eq (call_run h.reck rfl ?_)
  unfold nums at e3
  simp only [fd_reckoned, ↓rE_cst, ↓rE_glb, ↓rE_var, ↓rE_mov, ↓rE_tup, ↓rE_lst, ↓rE_op, ↓rE_ife, ↓rE_and, ↓rE_or, ↓rE_not, ↓rE_chain, ↓rE_call, ↓rE_mth, ↓rE_comp, ↓rE_dsp, ↓rO_var, ↓rO_op, ↓rO_cst, ↓rO_glb, ↓rO_mov, ↓rO_tup, ↓rO_lst, ↓rO_ife, ↓rO_and, ↓rO_or, ↓rO_not, ↓rO_chain, ↓rO_mth, ↓rO_call, ↓rO_comp, ↓rO_dsp, ↓rA_nil, ↓rA_cons, ↓rL_nil, ↓rL_cons, ↓rT_and, ↓rT_or, ↓rT_not, ↓rT_var, ↓rT_op, ↓rT_chain, ↓rT_call, ↓rT_cst, ↓rT_ife, ↓rI_seq, ↓rI_rng1, ↓rI_zip, ↓rB_nil, ↓rB_cons, ↓rS_asg, ↓rS_par, ↓rS_ex, ↓rS_ret, ↓rS_retN, ↓rS_iff, ↓rS_for, ↓rS_whl, ↓rS_rse, ↓rS_app, ↓rS_ext, ↓rS_sub, ↓run_pure, ↓run_bind, ↓run_ok, ↓run_exn, ↓run_bad, ↓r_getV, ↓got_some, ↓got_none, ↓got_map, ↓got_ite, ↓kB_bl, ↓gets_fz, ↓gets_un, ↓gets_tu, ↓movs_fz, ↓movs_un, ↓movs_tu, ↓next_next, ↓next_ret, ↓next_brk, ↓next_cnt, ↓ret_ret, ↓ret_exn, ↓ret_bad, ↓run_ite, ↓run_iteo, ↓run_of, ↓fin_ret, ↓fin_next, ↓finX_eq, ↓run_mbad, slot, rds, AV.rd, Own.simple, sv, Prim.run, Prim.ints, fzv, newl, outs, asgP, setAll, tupV, ownT, lstV, itemV, seqOf, lstOf, intOf, p_add, p_sub, p_mul, p_mod, p_fdiv, p_pow, p_neg, p_lt, p_le, p_gt, p_ge, p_isNone, p_notNone, p_idx, p_slLo, p_slHi, p_len, p_tuple, p_list, p_max2, p_min2, p_abs, p_int_, D.flat, passA, backA, takeA, frzA, List.getElem?_cons_zero, List.getElem?_cons_succ, Option.bind_some, Option.bind_none, id_eq, ↓reduceIte, List.map_cons, List.map_nil, List.cons_append, List.nil_append, List.replicate, List.set_cons_zero, List.set_cons_succ, and_true, true_and, and_self, eq_self, List.length_cons, List.length_nil, Nat.reduceAdd, Nat.reduceLeDiff, Nat.reduceLT, Bool.true_eq_false, Bool.false_eq_true, decide_true, decide_false, if_true, if_false, decide_eq_true_eq, Bool.and_eq_true, Bool.or_eq_true, List.all_cons, List.all_nil, Bool.and_true, Bool.and_self, ↓run_callG h.nrows, ↓io_need_rows, e1, ↓run_callG h.nnum, ↓io_need_numbers, e2, ↓run_callG h.rdone, ↓io_rows_done, e3, b2, Int.zero_add]
end Py

set_option Elab.async false
set_option linter.all false
set_option maxRecDepth 100000
set_option maxHeartbeats 4000000
namespace Py
open PySem
mutual
theorem Row.gen_units {ks : List Str} : ∀ (r : Row) (us : List Int) (d : Nat), r.gen ks us d → ∀ u ∈ r.units, u ∈ us
  | .sum _ a b m, us, d, h => by
    rw [Row.gen] at h
    rw [Row.units]
    intro u hu
    simp only [List.mem_cons, List.not_mem_nil, or_false] at hu
    rcases hu with rfl | rfl
    · exact h.1
    · exact h.2.1
  | .zero a, us, d, h => by
    rw [Row.gen] at h
    rw [Row.units]
    intro u hu
    rw [List.mem_singleton.mp hu]; exact h
  | .iff a x y, us, d, h => by
    rw [Row.gen] at h
    rw [Row.units]
    intro u hu
    rcases List.mem_cons.mp hu with rfl | hu
    · exact h.2.2.1
    · rcases List.mem_append.mp hu with z | z
      · exact Rows.gen_units x us _ h.2.2.2.1 u z
      · exact Rows.gen_units y us _ h.2.2.2.2 u z
  | .whl a x, us, d, h => by
    rw [Row.gen] at h
    rw [Row.units]
    intro u hu
    rcases List.mem_cons.mp hu with rfl | hu
    · exact h.2.2.1
    · exact Rows.gen_units x us _ h.2.2.2 u hu
  | .beside x y, us, d, h => by
    rw [Row.gen] at h
    obtain ⟨_, _, u1, u2, rfl, ⟨hx, hy, _⟩ | ⟨hx, hy, _⟩⟩ := h
    · rw [Row.units]
      intro u hu
      rcases List.mem_append.mp hu with z | z
      · exact List.mem_append_left _ (Rows.gen_units x _ _ hx u z)
      · exact List.mem_append_right _ (Rows.gen_units y _ _ hy u z)
    · rw [Row.units]
      intro u hu
      rcases List.mem_append.mp hu with z | z
      · exact List.mem_append_right _ (Rows.gen_units x _ _ hx u z)
      · exact List.mem_append_left _ (Rows.gen_units y _ _ hy u z)
theorem Rows.gen_units {ks : List Str} : ∀ (r : Rows) (us : List Int) (d : Nat), r.gen ks us d → ∀ u ∈ r.units, u ∈ us
  | .nil, us, d, h => by rw [Rows.units]; exact fun u hu => (List.not_mem_nil hu).elim
  | .cons r rs, us, d, h => by
    rw [Rows.gen] at h
    rw [Rows.units]
    intro u hu
    rcases List.mem_append.mp hu with z | z
    · exact Row.gen_units r us d h.1 u z
    · exact Rows.gen_units rs us d h.2 u z
end
mutual
theorem Row.gen_ok {ks : List Str} : ∀ (r : Row) (us : List Int) (d : Nat), us.Nodup → (∀ u ∈ us, 0 ≤ u ∧ u ≤ 5) → 1 ≤ d → r.gen ks us d → r.ok d
  | .sum _ a b m, us, d, hn, hu, hd, h => by
    rw [Row.gen] at h
    rw [Row.ok]
    exact ⟨hd, hu a h.1, hu b h.2.1, h.2.2⟩
  | .zero a, us, d, hn, hu, hd, h => by
    rw [Row.gen] at h
    rw [Row.ok]
    exact ⟨hd, hu a h⟩
  | .iff a x y, us, d, hn, hu, hd, h => by
    rw [Row.gen] at h
    rw [Row.ok]
    have := h.1
    exact ⟨hd, hu a h.2.2.1, Rows.gen_ok x us _ hn hu (by omega) h.2.2.2.1, Rows.gen_ok y us _ hn hu (by omega) h.2.2.2.2⟩
  | .whl a x, us, d, hn, hu, hd, h => by
    rw [Row.gen] at h
    rw [Row.ok]
    have := h.1
    exact ⟨hd, hu a h.2.2.1, Rows.gen_ok x us _ hn hu (by omega) h.2.2.2⟩
  | .beside x y, us, d, hn, hu, hd, h => by
    rw [Row.gen] at h
    obtain ⟨hd2, _, u1, u2, rfl, ⟨hx, hy, hl⟩ | ⟨hx, hy, hl⟩⟩ := h
    · obtain ⟨n1, n2, n3⟩ := List.nodup_append.mp hn
      rw [Row.ok]
      refine ⟨hd, Rows.gen_ok x _ _ n1 (fun u h => hu u (List.mem_append_left _ h)) (by omega) hx, Rows.gen_ok y _ _ n2 (fun u h => hu u (List.mem_append_right _ h)) (by omega) hy, .inl hl, ?_⟩
      intro u hux huy
      exact n3 u (Rows.gen_units x _ _ hx u hux) u (Rows.gen_units y _ _ hy u huy) rfl
    · obtain ⟨n1, n2, n3⟩ := List.nodup_append.mp hn
      rw [Row.ok]
      refine ⟨hd, Rows.gen_ok x _ _ n2 (fun u h => hu u (List.mem_append_right _ h)) (by omega) hx, Rows.gen_ok y _ _ n1 (fun u h => hu u (List.mem_append_left _ h)) (by omega) hy, .inr hl, ?_⟩
      intro u hux huy
      exact n3 u (Rows.gen_units y _ _ hy u huy) u (Rows.gen_units x _ _ hx u hux) rfl
theorem Rows.gen_ok {ks : List Str} : ∀ (r : Rows) (us : List Int) (d : Nat), us.Nodup → (∀ u ∈ us, 0 ≤ u ∧ u ≤ 5) → 1 ≤ d → r.gen ks us d → r.ok d
  | .nil, us, d, hn, hu, hd, h => by rw [Rows.ok]; trivial
  | .cons r rs, us, d, hn, hu, hd, h => by
    rw [Rows.gen] at h
    rw [Rows.ok]
    exact ⟨Row.gen_ok r us d hn hu hd h.1, Rows.gen_ok rs us d hn hu hd h.2⟩
end
mutual
theorem Row.gen_lin {ks : List Str} (h1 : ("if" : Str) ∉ ks) (h2 : ("while" : Str) ∉ ks) : ∀ (r : Row) (us : List Int) (d : Nat), r.gen ks us d → r.lin
  | .sum _ a b m, us, d, h => by rw [Row.lin]; trivial
  | .zero a, us, d, h => by rw [Row.lin]; trivial
  | .iff a x y, us, d, h => by rw [Row.gen] at h; exact absurd h.2.1 h1
  | .whl a x, us, d, h => by rw [Row.gen] at h; exact absurd h.2.1 h2
  | .beside x y, us, d, h => by
    rw [Row.gen] at h
    rw [Row.lin]
    obtain ⟨hd2, _, u1, u2, rfl, ⟨hx, hy, hl⟩ | ⟨hx, hy, hl⟩⟩ := h
    · exact ⟨Rows.gen_lin h1 h2 x _ _ hx, Rows.gen_lin h1 h2 y _ _ hy⟩
    · exact ⟨Rows.gen_lin h1 h2 x _ _ hx, Rows.gen_lin h1 h2 y _ _ hy⟩
theorem Rows.gen_lin {ks : List Str} (h1 : ("if" : Str) ∉ ks) (h2 : ("while" : Str) ∉ ks) : ∀ (r : Rows) (us : List Int) (d : Nat), r.gen ks us d → r.lin
  | .nil, us, d, h => by rw [Rows.lin]; trivial
  | .cons r rs, us, d, h => by
    rw [Rows.gen] at h
    rw [Rows.lin]
    exact ⟨Row.gen_lin h1 h2 r us d h.1, Rows.gen_lin h1 h2 rs us d h.2⟩
end
/-! ### linear -/
def plus (xs ys : List Int) : List Int := List.zipWith (· + ·) xs ys
def times (k : Int) (xs : List Int) : List Int := xs.map (k * ·)
theorem plus_len {xs ys : List Int} (h : xs.length = ys.length) : (plus xs ys).length = xs.length := by
  unfold plus; rw [List.length_zipWith, ← h]; omega
theorem plus_get {xs ys : List Int} (h : xs.length = ys.length) (i : Nat) : (plus xs ys).getD i 0 = xs.getD i 0 + ys.getD i 0 := by
  unfold plus
  simp only [List.getD_eq_getElem?_getD, List.getElem?_zipWith]
  by_cases c : i < xs.length
  · rw [List.getElem?_eq_getElem c, List.getElem?_eq_getElem (by omega)]; rfl
  · rw [List.getElem?_eq_none (by omega), List.getElem?_eq_none (by omega)]; rfl
theorem plus_set {xs ys : List Int} (h : xs.length = ys.length) (i : Nat) (v w : Int) : (plus xs ys).set i (v + w) = plus (xs.set i v) (ys.set i w) := by
  unfold plus
  apply List.ext_getElem?
  intro j
  rw [List.getElem?_set, List.getElem?_zipWith, List.getElem?_zipWith, List.getElem?_set, List.getElem?_set, List.length_zipWith, ← h, Nat.min_self]
  by_cases c : i = j
  · subst c
    by_cases d : i < xs.length
    · simp [d]
    · simp [d]
  · simp [c]
theorem times_get (k : Int) (xs : List Int) (i : Nat) : (times k xs).getD i 0 = k * xs.getD i 0 := by
  unfold times
  simp only [List.getD_eq_getElem?_getD, List.getElem?_map]
  cases xs[i]? <;> simp
theorem times_set (k : Int) (xs : List Int) (i : Nat) (v : Int) : (times k xs).set i (k * v) = times k (xs.set i v) := by
  unfold times; rw [List.map_set]
mutual
theorem Row.act_plus : ∀ (r : Row) (xs ys : List Int), r.lin → xs.length = ys.length → r.act (plus xs ys) = plus (r.act xs) (r.act ys)
  | .sum l a b m, xs, ys, hl, h => by
    simp only [Row.act]
    rw [← plus_set h, plus_get h, plus_get h]
    congr 1
    rw [Int.mul_add]; omega
  | .zero a, xs, ys, hl, h => by
    simp only [Row.act]
    rw [← plus_set h]; rfl
  | .iff a x y, xs, ys, hl, h => by simp only [Row.act]
  | .whl a x, xs, ys, hl, h => by simp only [Row.act]
  | .beside x y, xs, ys, hl, h => by
    rw [Row.lin] at hl
    simp only [Row.act]
    rw [Rows.act_plus x xs ys hl.1 h, Rows.act_plus y _ _ hl.2 (by rw [Rows.act_len, Rows.act_len, h])]
theorem Rows.act_plus : ∀ (r : Rows) (xs ys : List Int), r.lin → xs.length = ys.length → r.act (plus xs ys) = plus (r.act xs) (r.act ys)
  | .nil, xs, ys, hl, h => by simp only [Rows.act]
  | .cons r rs, xs, ys, hl, h => by
    rw [Rows.lin] at hl
    simp only [Rows.act]
    rw [Row.act_plus r xs ys hl.1 h, Rows.act_plus rs _ _ hl.2 (by rw [Row.act_len, Row.act_len, h])]
end
mutual
theorem Row.act_times (k : Int) : ∀ (r : Row) (xs : List Int), r.lin → r.act (times k xs) = times k (r.act xs)
  | .sum l a b m, xs, hl => by
    simp only [Row.act]
    rw [← times_set, times_get, times_get]
    congr 1
    rw [Int.mul_add, Int.mul_left_comm]
  | .zero a, xs, hl => by
    simp only [Row.act]
    rw [← times_set, Int.mul_zero]
  | .iff a x y, xs, hl => by simp only [Row.act]
  | .whl a x, xs, hl => by simp only [Row.act]
  | .beside x y, xs, hl => by
    rw [Row.lin] at hl
    simp only [Row.act]
    rw [Rows.act_times k x xs hl.1, Rows.act_times k y _ hl.2]
theorem Rows.act_times (k : Int) : ∀ (r : Rows) (xs : List Int), r.lin → r.act (times k xs) = times k (r.act xs)
  | .nil, xs, hl => by simp only [Rows.act]
  | .cons r rs, xs, hl => by
    rw [Rows.lin] at hl
    simp only [Rows.act]
    rw [Row.act_times k r xs hl.1, Rows.act_times k rs _ hl.2]
end
theorem Rows.act_zero (r : Rows) (hl : r.lin) (n : Nat) : r.act (List.replicate n 0) = List.replicate n 0 := by
  have e : ∀ xs : List Int, times 0 xs = List.replicate xs.length 0 := by
    intro xs
    unfold times
    rw [List.eq_replicate_iff]
    refine ⟨by rw [List.length_map], fun b hb => ?_⟩
    obtain ⟨x, _, rfl⟩ := List.mem_map.mp hb
    exact Int.zero_mul x
  have h := Rows.act_times 0 r (List.replicate n 0) hl
  rw [e, e, Rows.act_len, List.length_replicate] at h
  exact h
end Py

set_option Elab.async false
set_option linter.all false
set_option maxRecDepth 100000
set_option maxHeartbeats 4000000
namespace Py
open PySem
/-- six numbers drawn -/
theorem draws6 {P : Prg} (h : HasDraw P) (n : Nat) (ns : List Int) (ts : List D) (ht : ts.length ≤ 900000) (s2 s3 s4 s5 s6 s7 s8 s9 s10 s12 s13 : Option Val) {Q : Val → Fr → Prop} {E : Str → Fr → Prop}
    (hQ : ∀ (l : List Int) (k : Nat), l.length = 6 → (∀ x ∈ l, -1000 ≤ x ∧ x ≤ 1000) → k ≤ 6 → Q (.lst (intsD l), .un .fz) [some (.scr ns, .fz), some (.lst (ts ++ zs k), .un .fz), s2, s3, s4, s5, s6, s7, s8, s9, s10, none, s12, s13]) :
    Run (compM (M.pure (rangeD 0 6)) (evC (P.cfg (callF P (n + 3))) .none) (evE (P.cfg (callF P (n + 3))) (.op .sub (.cons (.call "_law_draw" (.cons (.var 0) (.cons (.var 1) (.cons (.cst (.int 2001)) .nil)))) (.cons (.cst (.int 1000)) .nil)))) .fz [11] (.nm 11) [some (.scr ns, .fz), some (.lst ts, .un .fz), s2, s3, s4, s5, s6, s7, s8, s9, s10, none, s12, s13]) Q E := by
  refine run_comp (fun r acc τ => ∃ (l : List Int) (k : Nat), l.length + r.length = 6 ∧ k = l.length ∧ acc = intsD l ∧ (∀ x ∈ l, -1000 ≤ x ∧ x ≤ 1000) ∧ τ = [some (.scr ns, .fz), some (.lst (ts ++ zs k), .un .fz), s2, s3, s4, s5, s6, s7, s8, s9, s10, none, s12, s13]) ?_ ?_ ?_
  · simp only [wipeF, clr, ↓rE_cst, ↓rE_glb, ↓rE_var, ↓rE_mov, ↓rE_tup, ↓rE_lst, ↓rE_op, ↓rE_ife, ↓rE_and, ↓rE_or, ↓rE_not, ↓rE_chain, ↓rE_call, ↓rE_mth, ↓rE_comp, ↓rE_dsp, ↓rO_var, ↓rO_op, ↓rO_cst, ↓rO_glb, ↓rO_mov, ↓rO_tup, ↓rO_lst, ↓rO_ife, ↓rO_and, ↓rO_or, ↓rO_not, ↓rO_chain, ↓rO_mth, ↓rO_call, ↓rO_comp, ↓rO_dsp, ↓rA_nil, ↓rA_cons, ↓rL_nil, ↓rL_cons, ↓rT_and, ↓rT_or, ↓rT_not, ↓rT_var, ↓rT_op, ↓rT_chain, ↓rT_call, ↓rT_cst, ↓rT_ife, ↓rI_seq, ↓rI_rng1, ↓rI_zip, ↓rB_nil, ↓rB_cons, ↓rS_asg, ↓rS_par, ↓rS_ex, ↓rS_ret, ↓rS_retN, ↓rS_iff, ↓rS_for, ↓rS_whl, ↓rS_rse, ↓rS_app, ↓rS_ext, ↓rS_sub, ↓run_pure, ↓run_bind, ↓run_ok, ↓run_exn, ↓run_bad, ↓r_getV, ↓got_some, ↓got_none, ↓got_map, ↓got_ite, ↓kB_bl, ↓gets_fz, ↓gets_un, ↓gets_tu, ↓movs_fz, ↓movs_un, ↓movs_tu, ↓next_next, ↓next_ret, ↓next_brk, ↓next_cnt, ↓ret_ret, ↓ret_exn, ↓ret_bad, ↓run_ite, ↓run_iteo, ↓run_of, ↓fin_ret, ↓fin_next, ↓finX_eq, ↓run_mbad, slot, rds, AV.rd, Own.simple, sv, Prim.run, Prim.ints, fzv, newl, outs, asgP, setAll, tupV, ownT, lstV, itemV, seqOf, lstOf, intOf, p_add, p_sub, p_mul, p_mod, p_fdiv, p_pow, p_neg, p_lt, p_le, p_gt, p_ge, p_isNone, p_notNone, p_idx, p_slLo, p_slHi, p_len, p_tuple, p_list, p_max2, p_min2, p_abs, p_int_, D.flat, passA, backA, takeA, frzA, List.getElem?_cons_zero, List.getElem?_cons_succ, Option.bind_some, Option.bind_none, id_eq, ↓reduceIte, List.map_cons, List.map_nil, List.cons_append, List.nil_append, List.replicate, List.set_cons_zero, List.set_cons_succ, and_true, true_and, and_self, eq_self, List.length_cons, List.length_nil, Nat.reduceAdd, Nat.reduceLeDiff, Nat.reduceLT, Bool.true_eq_false, Bool.false_eq_true, decide_true, decide_false, if_true, if_false, decide_eq_true_eq, Bool.and_eq_true, Bool.or_eq_true, List.all_cons, List.all_nil, Bool.and_true, Bool.and_self]
    refine ⟨[], 0, ?_, rfl, rfl, fun x hx => (List.not_mem_nil hx).elim, ?_⟩
    · rw [rangeD_length]; rfl
    · have : ts ++ zs 0 = ts := List.append_nil ts
      rw [this]
  · rintro x r acc τ ⟨l, k, h1, rfl, rfl, h3, rfl⟩
    have e := law_draw h n ns (ts ++ zs l.length) 2001 (by decide) (by rw [town_len]; simp at h1; omega)
    obtain ⟨g0, g1⟩ := drawn_lt ns (ts ++ zs l.length) (many := 2001) (by decide)
    generalize drawn ns (ts ++ zs l.length) 2001 = dm at e g0 g1
    rw [zs1] at e
    unfold town at e
    simp only [↓rE_cst, ↓rE_glb, ↓rE_var, ↓rE_mov, ↓rE_tup, ↓rE_lst, ↓rE_op, ↓rE_ife, ↓rE_and, ↓rE_or, ↓rE_not, ↓rE_chain, ↓rE_call, ↓rE_mth, ↓rE_comp, ↓rE_dsp, ↓rO_var, ↓rO_op, ↓rO_cst, ↓rO_glb, ↓rO_mov, ↓rO_tup, ↓rO_lst, ↓rO_ife, ↓rO_and, ↓rO_or, ↓rO_not, ↓rO_chain, ↓rO_mth, ↓rO_call, ↓rO_comp, ↓rO_dsp, ↓rA_nil, ↓rA_cons, ↓rL_nil, ↓rL_cons, ↓rT_and, ↓rT_or, ↓rT_not, ↓rT_var, ↓rT_op, ↓rT_chain, ↓rT_call, ↓rT_cst, ↓rT_ife, ↓rI_seq, ↓rI_rng1, ↓rI_zip, ↓rB_nil, ↓rB_cons, ↓rS_asg, ↓rS_par, ↓rS_ex, ↓rS_ret, ↓rS_retN, ↓rS_iff, ↓rS_for, ↓rS_whl, ↓rS_rse, ↓rS_app, ↓rS_ext, ↓rS_sub, ↓run_pure, ↓run_bind, ↓run_ok, ↓run_exn, ↓run_bad, ↓r_getV, ↓got_some, ↓got_none, ↓got_map, ↓got_ite, ↓kB_bl, ↓gets_fz, ↓gets_un, ↓gets_tu, ↓movs_fz, ↓movs_un, ↓movs_tu, ↓next_next, ↓next_ret, ↓next_brk, ↓next_cnt, ↓ret_ret, ↓ret_exn, ↓ret_bad, ↓run_ite, ↓run_iteo, ↓run_of, ↓fin_ret, ↓fin_next, ↓finX_eq, ↓run_mbad, slot, rds, AV.rd, Own.simple, sv, Prim.run, Prim.ints, fzv, newl, outs, asgP, setAll, tupV, ownT, lstV, itemV, seqOf, lstOf, intOf, p_add, p_sub, p_mul, p_mod, p_fdiv, p_pow, p_neg, p_lt, p_le, p_gt, p_ge, p_isNone, p_notNone, p_idx, p_slLo, p_slHi, p_len, p_tuple, p_list, p_max2, p_min2, p_abs, p_int_, D.flat, passA, backA, takeA, frzA, List.getElem?_cons_zero, List.getElem?_cons_succ, Option.bind_some, Option.bind_none, id_eq, ↓reduceIte, List.map_cons, List.map_nil, List.cons_append, List.nil_append, List.replicate, List.set_cons_zero, List.set_cons_succ, and_true, true_and, and_self, eq_self, List.length_cons, List.length_nil, Nat.reduceAdd, Nat.reduceLeDiff, Nat.reduceLT, Bool.true_eq_false, Bool.false_eq_true, decide_true, decide_false, if_true, if_false, decide_eq_true_eq, Bool.and_eq_true, Bool.or_eq_true, List.all_cons, List.all_nil, Bool.and_true, Bool.and_self, evC, ↓run_callG h.draw, ↓io__law_draw, e, clr]
    refine ⟨l ++ [dm - 1000], l.length + 1, ?_, by simp, by unfold intsD; rw [List.map_append]; rfl, ?_, rfl⟩
    · simp at h1 ⊢; omega
    · intro y hy
      rcases List.mem_append.mp hy with z | z
      · exact h3 y z
      · rw [List.mem_singleton.mp z]; omega
  · rintro xs τ ⟨l, k, h1, rfl, rfl, h3, rfl⟩
    simp only [putBack, ↓rE_cst, ↓rE_glb, ↓rE_var, ↓rE_mov, ↓rE_tup, ↓rE_lst, ↓rE_op, ↓rE_ife, ↓rE_and, ↓rE_or, ↓rE_not, ↓rE_chain, ↓rE_call, ↓rE_mth, ↓rE_comp, ↓rE_dsp, ↓rO_var, ↓rO_op, ↓rO_cst, ↓rO_glb, ↓rO_mov, ↓rO_tup, ↓rO_lst, ↓rO_ife, ↓rO_and, ↓rO_or, ↓rO_not, ↓rO_chain, ↓rO_mth, ↓rO_call, ↓rO_comp, ↓rO_dsp, ↓rA_nil, ↓rA_cons, ↓rL_nil, ↓rL_cons, ↓rT_and, ↓rT_or, ↓rT_not, ↓rT_var, ↓rT_op, ↓rT_chain, ↓rT_call, ↓rT_cst, ↓rT_ife, ↓rI_seq, ↓rI_rng1, ↓rI_zip, ↓rB_nil, ↓rB_cons, ↓rS_asg, ↓rS_par, ↓rS_ex, ↓rS_ret, ↓rS_retN, ↓rS_iff, ↓rS_for, ↓rS_whl, ↓rS_rse, ↓rS_app, ↓rS_ext, ↓rS_sub, ↓run_pure, ↓run_bind, ↓run_ok, ↓run_exn, ↓run_bad, ↓r_getV, ↓got_some, ↓got_none, ↓got_map, ↓got_ite, ↓kB_bl, ↓gets_fz, ↓gets_un, ↓gets_tu, ↓movs_fz, ↓movs_un, ↓movs_tu, ↓next_next, ↓next_ret, ↓next_brk, ↓next_cnt, ↓ret_ret, ↓ret_exn, ↓ret_bad, ↓run_ite, ↓run_iteo, ↓run_of, ↓fin_ret, ↓fin_next, ↓finX_eq, ↓run_mbad, slot, rds, AV.rd, Own.simple, sv, Prim.run, Prim.ints, fzv, newl, outs, asgP, setAll, tupV, ownT, lstV, itemV, seqOf, lstOf, intOf, p_add, p_sub, p_mul, p_mod, p_fdiv, p_pow, p_neg, p_lt, p_le, p_gt, p_ge, p_isNone, p_notNone, p_idx, p_slLo, p_slHi, p_len, p_tuple, p_list, p_max2, p_min2, p_abs, p_int_, D.flat, passA, backA, takeA, frzA, List.getElem?_cons_zero, List.getElem?_cons_succ, Option.bind_some, Option.bind_none, id_eq, ↓reduceIte, List.map_cons, List.map_nil, List.cons_append, List.nil_append, List.replicate, List.set_cons_zero, List.set_cons_succ, and_true, true_and, and_self, eq_self, List.length_cons, List.length_nil, Nat.reduceAdd, Nat.reduceLeDiff, Nat.reduceLT, Bool.true_eq_false, Bool.false_eq_true, decide_true, decide_false, if_true, if_false, decide_eq_true_eq, Bool.and_eq_true, Bool.or_eq_true, List.all_cons, List.all_nil, Bool.and_true, Bool.and_self]
    exact hQ l l.length (by simpa using h1) h3 (by simp at h1; omega)
theorem zipD_ints : ∀ (xs ys : List Int) (d : D) (rest : List D), zipD (intsD xs) (intsD ys) = d :: rest → ∃ x xs' y ys', xs = x :: xs' ∧ ys = y :: ys' ∧ d = .tup [.int x, .int y] ∧ rest = zipD (intsD xs') (intsD ys')
  | x :: xs, y :: ys, d, rest, h => by
    cases h
    exact ⟨x, xs, y, ys, rfl, rfl, rfl, rfl⟩
  | [], ys, d, rest, h => by cases h
  | x :: xs, [], d, rest, h => by cases h
/-- a + b, one by one -/
theorem zip_add {C : Cfg} (xs ys : List Int) (hl : xs.length = ys.length) (s0 s1 s2 s3 s4 s5 s6 s7 s8 s9 s10 s11 : Option Val) {Q : Val → Fr → Prop} {E : Str → Fr → Prop}
    (hQ : Q (.lst (intsD (plus xs ys)), .un .fz) [s0, s1, s2, s3, s4, s5, s6, s7, s8, s9, s10, s11, none, none]) :
    Run (compM (M.pure (zipD (intsD xs) (intsD ys))) (evC C .none) (evE C (.op .add (.cons (.var 12) (.cons (.var 13) .nil)))) .fz [12, 13] (.cn (.nm 12) (.cn (.nm 13) .nl)) [s0, s1, s2, s3, s4, s5, s6, s7, s8, s9, s10, s11, none, none]) Q E := by
  refine run_comp (fun r acc τ => ∃ (l us vs : List Int), r = zipD (intsD us) (intsD vs) ∧ us.length = vs.length ∧ acc = intsD l ∧ l ++ plus us vs = plus xs ys ∧ τ = [s0, s1, s2, s3, s4, s5, s6, s7, s8, s9, s10, s11, none, none]) ?_ ?_ ?_
  · simp only [wipeF, clr, ↓rE_cst, ↓rE_glb, ↓rE_var, ↓rE_mov, ↓rE_tup, ↓rE_lst, ↓rE_op, ↓rE_ife, ↓rE_and, ↓rE_or, ↓rE_not, ↓rE_chain, ↓rE_call, ↓rE_mth, ↓rE_comp, ↓rE_dsp, ↓rO_var, ↓rO_op, ↓rO_cst, ↓rO_glb, ↓rO_mov, ↓rO_tup, ↓rO_lst, ↓rO_ife, ↓rO_and, ↓rO_or, ↓rO_not, ↓rO_chain, ↓rO_mth, ↓rO_call, ↓rO_comp, ↓rO_dsp, ↓rA_nil, ↓rA_cons, ↓rL_nil, ↓rL_cons, ↓rT_and, ↓rT_or, ↓rT_not, ↓rT_var, ↓rT_op, ↓rT_chain, ↓rT_call, ↓rT_cst, ↓rT_ife, ↓rI_seq, ↓rI_rng1, ↓rI_zip, ↓rB_nil, ↓rB_cons, ↓rS_asg, ↓rS_par, ↓rS_ex, ↓rS_ret, ↓rS_retN, ↓rS_iff, ↓rS_for, ↓rS_whl, ↓rS_rse, ↓rS_app, ↓rS_ext, ↓rS_sub, ↓run_pure, ↓run_bind, ↓run_ok, ↓run_exn, ↓run_bad, ↓r_getV, ↓got_some, ↓got_none, ↓got_map, ↓got_ite, ↓kB_bl, ↓gets_fz, ↓gets_un, ↓gets_tu, ↓movs_fz, ↓movs_un, ↓movs_tu, ↓next_next, ↓next_ret, ↓next_brk, ↓next_cnt, ↓ret_ret, ↓ret_exn, ↓ret_bad, ↓run_ite, ↓run_iteo, ↓run_of, ↓fin_ret, ↓fin_next, ↓finX_eq, ↓run_mbad, slot, rds, AV.rd, Own.simple, sv, Prim.run, Prim.ints, fzv, newl, outs, asgP, setAll, tupV, ownT, lstV, itemV, seqOf, lstOf, intOf, p_add, p_sub, p_mul, p_mod, p_fdiv, p_pow, p_neg, p_lt, p_le, p_gt, p_ge, p_isNone, p_notNone, p_idx, p_slLo, p_slHi, p_len, p_tuple, p_list, p_max2, p_min2, p_abs, p_int_, D.flat, passA, backA, takeA, frzA, List.getElem?_cons_zero, List.getElem?_cons_succ, Option.bind_some, Option.bind_none, id_eq, ↓reduceIte, List.map_cons, List.map_nil, List.cons_append, List.nil_append, List.replicate, List.set_cons_zero, List.set_cons_succ, and_true, true_and, and_self, eq_self, List.length_cons, List.length_nil, Nat.reduceAdd, Nat.reduceLeDiff, Nat.reduceLT, Bool.true_eq_false, Bool.false_eq_true, decide_true, decide_false, if_true, if_false, decide_eq_true_eq, Bool.and_eq_true, Bool.or_eq_true, List.all_cons, List.all_nil, Bool.and_true, Bool.and_self]
    exact ⟨[], xs, ys, rfl, hl, rfl, rfl⟩
  · rintro x r acc τ ⟨l, us, vs, h1, h2, rfl, h3, rfl⟩
    obtain ⟨u, us, v, vs, rfl, rfl, rfl, rfl⟩ := zipD_ints us vs _ _ h1.symm
    simp only [↓rE_cst, ↓rE_glb, ↓rE_var, ↓rE_mov, ↓rE_tup, ↓rE_lst, ↓rE_op, ↓rE_ife, ↓rE_and, ↓rE_or, ↓rE_not, ↓rE_chain, ↓rE_call, ↓rE_mth, ↓rE_comp, ↓rE_dsp, ↓rO_var, ↓rO_op, ↓rO_cst, ↓rO_glb, ↓rO_mov, ↓rO_tup, ↓rO_lst, ↓rO_ife, ↓rO_and, ↓rO_or, ↓rO_not, ↓rO_chain, ↓rO_mth, ↓rO_call, ↓rO_comp, ↓rO_dsp, ↓rA_nil, ↓rA_cons, ↓rL_nil, ↓rL_cons, ↓rT_and, ↓rT_or, ↓rT_not, ↓rT_var, ↓rT_op, ↓rT_chain, ↓rT_call, ↓rT_cst, ↓rT_ife, ↓rI_seq, ↓rI_rng1, ↓rI_zip, ↓rB_nil, ↓rB_cons, ↓rS_asg, ↓rS_par, ↓rS_ex, ↓rS_ret, ↓rS_retN, ↓rS_iff, ↓rS_for, ↓rS_whl, ↓rS_rse, ↓rS_app, ↓rS_ext, ↓rS_sub, ↓run_pure, ↓run_bind, ↓run_ok, ↓run_exn, ↓run_bad, ↓r_getV, ↓got_some, ↓got_none, ↓got_map, ↓got_ite, ↓kB_bl, ↓gets_fz, ↓gets_un, ↓gets_tu, ↓movs_fz, ↓movs_un, ↓movs_tu, ↓next_next, ↓next_ret, ↓next_brk, ↓next_cnt, ↓ret_ret, ↓ret_exn, ↓ret_bad, ↓run_ite, ↓run_iteo, ↓run_of, ↓fin_ret, ↓fin_next, ↓finX_eq, ↓run_mbad, slot, rds, AV.rd, Own.simple, sv, Prim.run, Prim.ints, fzv, newl, outs, asgP, setAll, tupV, ownT, lstV, itemV, seqOf, lstOf, intOf, p_add, p_sub, p_mul, p_mod, p_fdiv, p_pow, p_neg, p_lt, p_le, p_gt, p_ge, p_isNone, p_notNone, p_idx, p_slLo, p_slHi, p_len, p_tuple, p_list, p_max2, p_min2, p_abs, p_int_, D.flat, passA, backA, takeA, frzA, List.getElem?_cons_zero, List.getElem?_cons_succ, Option.bind_some, Option.bind_none, id_eq, ↓reduceIte, List.map_cons, List.map_nil, List.cons_append, List.nil_append, List.replicate, List.set_cons_zero, List.set_cons_succ, and_true, true_and, and_self, eq_self, List.length_cons, List.length_nil, Nat.reduceAdd, Nat.reduceLeDiff, Nat.reduceLT, Bool.true_eq_false, Bool.false_eq_true, decide_true, decide_false, if_true, if_false, decide_eq_true_eq, Bool.and_eq_true, Bool.or_eq_true, List.all_cons, List.all_nil, Bool.and_true, Bool.and_self, evC, clr]
    refine ⟨l ++ [u + v], us, vs, rfl, by simpa using h2, by unfold intsD; rw [List.map_append]; rfl, ?_⟩
    rw [← h3]; simp [plus]
  · rintro zz τ ⟨l, us, vs, h1, h2, rfl, h3, rfl⟩
    cases us with
    | cons u us =>
      cases vs with
      | nil => cases h2
      | cons v vs => cases h1
    | nil =>
      have h4 : l = plus xs ys := by rw [← h3]; simp [plus]
      subst h4
      simp only [putBack, ↓rE_cst, ↓rE_glb, ↓rE_var, ↓rE_mov, ↓rE_tup, ↓rE_lst, ↓rE_op, ↓rE_ife, ↓rE_and, ↓rE_or, ↓rE_not, ↓rE_chain, ↓rE_call, ↓rE_mth, ↓rE_comp, ↓rE_dsp, ↓rO_var, ↓rO_op, ↓rO_cst, ↓rO_glb, ↓rO_mov, ↓rO_tup, ↓rO_lst, ↓rO_ife, ↓rO_and, ↓rO_or, ↓rO_not, ↓rO_chain, ↓rO_mth, ↓rO_call, ↓rO_comp, ↓rO_dsp, ↓rA_nil, ↓rA_cons, ↓rL_nil, ↓rL_cons, ↓rT_and, ↓rT_or, ↓rT_not, ↓rT_var, ↓rT_op, ↓rT_chain, ↓rT_call, ↓rT_cst, ↓rT_ife, ↓rI_seq, ↓rI_rng1, ↓rI_zip, ↓rB_nil, ↓rB_cons, ↓rS_asg, ↓rS_par, ↓rS_ex, ↓rS_ret, ↓rS_retN, ↓rS_iff, ↓rS_for, ↓rS_whl, ↓rS_rse, ↓rS_app, ↓rS_ext, ↓rS_sub, ↓run_pure, ↓run_bind, ↓run_ok, ↓run_exn, ↓run_bad, ↓r_getV, ↓got_some, ↓got_none, ↓got_map, ↓got_ite, ↓kB_bl, ↓gets_fz, ↓gets_un, ↓gets_tu, ↓movs_fz, ↓movs_un, ↓movs_tu, ↓next_next, ↓next_ret, ↓next_brk, ↓next_cnt, ↓ret_ret, ↓ret_exn, ↓ret_bad, ↓run_ite, ↓run_iteo, ↓run_of, ↓fin_ret, ↓fin_next, ↓finX_eq, ↓run_mbad, slot, rds, AV.rd, Own.simple, sv, Prim.run, Prim.ints, fzv, newl, outs, asgP, setAll, tupV, ownT, lstV, itemV, seqOf, lstOf, intOf, p_add, p_sub, p_mul, p_mod, p_fdiv, p_pow, p_neg, p_lt, p_le, p_gt, p_ge, p_isNone, p_notNone, p_idx, p_slLo, p_slHi, p_len, p_tuple, p_list, p_max2, p_min2, p_abs, p_int_, D.flat, passA, backA, takeA, frzA, List.getElem?_cons_zero, List.getElem?_cons_succ, Option.bind_some, Option.bind_none, id_eq, ↓reduceIte, List.map_cons, List.map_nil, List.cons_append, List.nil_append, List.replicate, List.set_cons_zero, List.set_cons_succ, and_true, true_and, and_self, eq_self, List.length_cons, List.length_nil, Nat.reduceAdd, Nat.reduceLeDiff, Nat.reduceLT, Bool.true_eq_false, Bool.false_eq_true, decide_true, decide_false, if_true, if_false, decide_eq_true_eq, Bool.and_eq_true, Bool.or_eq_true, List.all_cons, List.all_nil, Bool.and_true, Bool.and_self]
      exact hQ
/-- many * a, one by one -/
theorem map_mul {C : Cfg} (k : Int) (hk : tight k = true) (xs : List Int) (s0 s1 s3 s4 s5 s6 s7 s8 s9 s10 s11 s13 : Option Val) {Q : Val → Fr → Prop} {E : Str → Fr → Prop}
    (hQ : Q (.lst (intsD (times k xs)), .un .fz) [s0, s1, some (.int k, .fz), s3, s4, s5, s6, s7, s8, s9, s10, s11, none, s13]) :
    Run (compM (M.pure (intsD xs)) (evC C .none) (evE C (.op .mul (.cons (.var 2) (.cons (.var 12) .nil)))) .fz [12] (.nm 12) [s0, s1, some (.int k, .fz), s3, s4, s5, s6, s7, s8, s9, s10, s11, none, s13]) Q E := by
  refine run_comp (fun r acc τ => ∃ (l us : List Int), r = intsD us ∧ acc = intsD l ∧ l ++ times k us = times k xs ∧ τ = [s0, s1, some (.int k, .fz), s3, s4, s5, s6, s7, s8, s9, s10, s11, none, s13]) ?_ ?_ ?_
  · simp only [wipeF, clr, ↓rE_cst, ↓rE_glb, ↓rE_var, ↓rE_mov, ↓rE_tup, ↓rE_lst, ↓rE_op, ↓rE_ife, ↓rE_and, ↓rE_or, ↓rE_not, ↓rE_chain, ↓rE_call, ↓rE_mth, ↓rE_comp, ↓rE_dsp, ↓rO_var, ↓rO_op, ↓rO_cst, ↓rO_glb, ↓rO_mov, ↓rO_tup, ↓rO_lst, ↓rO_ife, ↓rO_and, ↓rO_or, ↓rO_not, ↓rO_chain, ↓rO_mth, ↓rO_call, ↓rO_comp, ↓rO_dsp, ↓rA_nil, ↓rA_cons, ↓rL_nil, ↓rL_cons, ↓rT_and, ↓rT_or, ↓rT_not, ↓rT_var, ↓rT_op, ↓rT_chain, ↓rT_call, ↓rT_cst, ↓rT_ife, ↓rI_seq, ↓rI_rng1, ↓rI_zip, ↓rB_nil, ↓rB_cons, ↓rS_asg, ↓rS_par, ↓rS_ex, ↓rS_ret, ↓rS_retN, ↓rS_iff, ↓rS_for, ↓rS_whl, ↓rS_rse, ↓rS_app, ↓rS_ext, ↓rS_sub, ↓run_pure, ↓run_bind, ↓run_ok, ↓run_exn, ↓run_bad, ↓r_getV, ↓got_some, ↓got_none, ↓got_map, ↓got_ite, ↓kB_bl, ↓gets_fz, ↓gets_un, ↓gets_tu, ↓movs_fz, ↓movs_un, ↓movs_tu, ↓next_next, ↓next_ret, ↓next_brk, ↓next_cnt, ↓ret_ret, ↓ret_exn, ↓ret_bad, ↓run_ite, ↓run_iteo, ↓run_of, ↓fin_ret, ↓fin_next, ↓finX_eq, ↓run_mbad, slot, rds, AV.rd, Own.simple, sv, Prim.run, Prim.ints, fzv, newl, outs, asgP, setAll, tupV, ownT, lstV, itemV, seqOf, lstOf, intOf, p_add, p_sub, p_mul, p_mod, p_fdiv, p_pow, p_neg, p_lt, p_le, p_gt, p_ge, p_isNone, p_notNone, p_idx, p_slLo, p_slHi, p_len, p_tuple, p_list, p_max2, p_min2, p_abs, p_int_, D.flat, passA, backA, takeA, frzA, List.getElem?_cons_zero, List.getElem?_cons_succ, Option.bind_some, Option.bind_none, id_eq, ↓reduceIte, List.map_cons, List.map_nil, List.cons_append, List.nil_append, List.replicate, List.set_cons_zero, List.set_cons_succ, and_true, true_and, and_self, eq_self, List.length_cons, List.length_nil, Nat.reduceAdd, Nat.reduceLeDiff, Nat.reduceLT, Bool.true_eq_false, Bool.false_eq_true, decide_true, decide_false, if_true, if_false, decide_eq_true_eq, Bool.and_eq_true, Bool.or_eq_true, List.all_cons, List.all_nil, Bool.and_true, Bool.and_self]
    exact ⟨[], xs, rfl, rfl, rfl⟩
  · rintro x r acc τ ⟨l, us, h1, rfl, h3, rfl⟩
    cases us with
    | nil => cases h1
    | cons u us =>
      cases h1
      simp only [↓rE_cst, ↓rE_glb, ↓rE_var, ↓rE_mov, ↓rE_tup, ↓rE_lst, ↓rE_op, ↓rE_ife, ↓rE_and, ↓rE_or, ↓rE_not, ↓rE_chain, ↓rE_call, ↓rE_mth, ↓rE_comp, ↓rE_dsp, ↓rO_var, ↓rO_op, ↓rO_cst, ↓rO_glb, ↓rO_mov, ↓rO_tup, ↓rO_lst, ↓rO_ife, ↓rO_and, ↓rO_or, ↓rO_not, ↓rO_chain, ↓rO_mth, ↓rO_call, ↓rO_comp, ↓rO_dsp, ↓rA_nil, ↓rA_cons, ↓rL_nil, ↓rL_cons, ↓rT_and, ↓rT_or, ↓rT_not, ↓rT_var, ↓rT_op, ↓rT_chain, ↓rT_call, ↓rT_cst, ↓rT_ife, ↓rI_seq, ↓rI_rng1, ↓rI_zip, ↓rB_nil, ↓rB_cons, ↓rS_asg, ↓rS_par, ↓rS_ex, ↓rS_ret, ↓rS_retN, ↓rS_iff, ↓rS_for, ↓rS_whl, ↓rS_rse, ↓rS_app, ↓rS_ext, ↓rS_sub, ↓run_pure, ↓run_bind, ↓run_ok, ↓run_exn, ↓run_bad, ↓r_getV, ↓got_some, ↓got_none, ↓got_map, ↓got_ite, ↓kB_bl, ↓gets_fz, ↓gets_un, ↓gets_tu, ↓movs_fz, ↓movs_un, ↓movs_tu, ↓next_next, ↓next_ret, ↓next_brk, ↓next_cnt, ↓ret_ret, ↓ret_exn, ↓ret_bad, ↓run_ite, ↓run_iteo, ↓run_of, ↓fin_ret, ↓fin_next, ↓finX_eq, ↓run_mbad, slot, rds, AV.rd, Own.simple, sv, Prim.run, Prim.ints, fzv, newl, outs, asgP, setAll, tupV, ownT, lstV, itemV, seqOf, lstOf, intOf, p_add, p_sub, p_mul, p_mod, p_fdiv, p_pow, p_neg, p_lt, p_le, p_gt, p_ge, p_isNone, p_notNone, p_idx, p_slLo, p_slHi, p_len, p_tuple, p_list, p_max2, p_min2, p_abs, p_int_, D.flat, passA, backA, takeA, frzA, List.getElem?_cons_zero, List.getElem?_cons_succ, Option.bind_some, Option.bind_none, id_eq, ↓reduceIte, List.map_cons, List.map_nil, List.cons_append, List.nil_append, List.replicate, List.set_cons_zero, List.set_cons_succ, and_true, true_and, and_self, eq_self, List.length_cons, List.length_nil, Nat.reduceAdd, Nat.reduceLeDiff, Nat.reduceLT, Bool.true_eq_false, Bool.false_eq_true, decide_true, decide_false, if_true, if_false, decide_eq_true_eq, Bool.and_eq_true, Bool.or_eq_true, List.all_cons, List.all_nil, Bool.and_true, Bool.and_self, evC, clr, hk, Bool.true_or]
      refine ⟨l ++ [k * u], us, rfl, by unfold intsD; rw [List.map_append]; rfl, ?_⟩
      rw [← h3]; simp [times]
  · rintro zz τ ⟨l, us, h1, rfl, h3, rfl⟩
    cases us with
    | cons u us => cases h1
    | nil =>
      have h4 : l = times k xs := by rw [← h3]; simp [times]
      subst h4
      simp only [putBack, ↓rE_cst, ↓rE_glb, ↓rE_var, ↓rE_mov, ↓rE_tup, ↓rE_lst, ↓rE_op, ↓rE_ife, ↓rE_and, ↓rE_or, ↓rE_not, ↓rE_chain, ↓rE_call, ↓rE_mth, ↓rE_comp, ↓rE_dsp, ↓rO_var, ↓rO_op, ↓rO_cst, ↓rO_glb, ↓rO_mov, ↓rO_tup, ↓rO_lst, ↓rO_ife, ↓rO_and, ↓rO_or, ↓rO_not, ↓rO_chain, ↓rO_mth, ↓rO_call, ↓rO_comp, ↓rO_dsp, ↓rA_nil, ↓rA_cons, ↓rL_nil, ↓rL_cons, ↓rT_and, ↓rT_or, ↓rT_not, ↓rT_var, ↓rT_op, ↓rT_chain, ↓rT_call, ↓rT_cst, ↓rT_ife, ↓rI_seq, ↓rI_rng1, ↓rI_zip, ↓rB_nil, ↓rB_cons, ↓rS_asg, ↓rS_par, ↓rS_ex, ↓rS_ret, ↓rS_retN, ↓rS_iff, ↓rS_for, ↓rS_whl, ↓rS_rse, ↓rS_app, ↓rS_ext, ↓rS_sub, ↓run_pure, ↓run_bind, ↓run_ok, ↓run_exn, ↓run_bad, ↓r_getV, ↓got_some, ↓got_none, ↓got_map, ↓got_ite, ↓kB_bl, ↓gets_fz, ↓gets_un, ↓gets_tu, ↓movs_fz, ↓movs_un, ↓movs_tu, ↓next_next, ↓next_ret, ↓next_brk, ↓next_cnt, ↓ret_ret, ↓ret_exn, ↓ret_bad, ↓run_ite, ↓run_iteo, ↓run_of, ↓fin_ret, ↓fin_next, ↓finX_eq, ↓run_mbad, slot, rds, AV.rd, Own.simple, sv, Prim.run, Prim.ints, fzv, newl, outs, asgP, setAll, tupV, ownT, lstV, itemV, seqOf, lstOf, intOf, p_add, p_sub, p_mul, p_mod, p_fdiv, p_pow, p_neg, p_lt, p_le, p_gt, p_ge, p_isNone, p_notNone, p_idx, p_slLo, p_slHi, p_len, p_tuple, p_list, p_max2, p_min2, p_abs, p_int_, D.flat, passA, backA, takeA, frzA, List.getElem?_cons_zero, List.getElem?_cons_succ, Option.bind_some, Option.bind_none, id_eq, ↓reduceIte, List.map_cons, List.map_nil, List.cons_append, List.nil_append, List.replicate, List.set_cons_zero, List.set_cons_succ, and_true, true_and, and_self, eq_self, List.length_cons, List.length_nil, Nat.reduceAdd, Nat.reduceLeDiff, Nat.reduceLT, Bool.true_eq_false, Bool.false_eq_true, decide_true, decide_false, if_true, if_false, decide_eq_true_eq, Bool.and_eq_true, Bool.or_eq_true, List.all_cons, List.all_nil, Bool.and_true, Bool.and_self]
      exact hQ
theorem ints_plains : ∀ xs : List Int, D.plains (intsD xs) = true
  | [] => by unfold intsD; rw [List.map_nil, D.plains]
  | x :: xs => by
    show D.plains (.int x :: intsD xs) = true
    rw [D.plains, pl_int, ints_plains xs]; rfl
theorem ints_depths : ∀ xs : List Int, D.depths (intsD xs) = 0
  | [] => by unfold intsD; rw [List.map_nil, D.depths]
  | x :: xs => by
    show D.depths (.int x :: intsD xs) = 0
    rw [D.depths, ints_depths xs]; simp [D.depth]
theorem ints_eqvs : ∀ xs : List Int, D.eqvs (intsD xs) (intsD xs) = true
  | [] => by unfold intsD; rw [List.map_nil, D.eqvs]
  | x :: xs => by
    show D.eqvs (.int x :: intsD xs) (.int x :: intsD xs) = true
    rw [D.eqvs, ints_eqvs xs, D.eqv]; simp
theorem eq_ints (xs : List Int) : (D.tup (intsD xs)).eq? (.tup (intsD xs)) = some true := by
  unfold D.eq?
  rw [D.plain, ints_plains, D.depth, ints_depths, D.eqv, ints_eqvs]; rfl
theorem eq_pair (xs : List Int) (b : Int) : (D.tup [.tup (intsD xs), .int b]).eq? (.tup [.tup (intsD xs), .int b]) = some true := by
  unfold D.eq?
  simp only [D.plain, D.plains, ints_plains, D.depth, D.depths, ints_depths, D.eqv, D.eqvs, ints_eqvs, pl_int, Bool.and_self, beq_self_eq_true]
  rfl
end Py

set_option Elab.async false
set_option linter.all false
set_option maxRecDepth 100000
set_option maxHeartbeats 4000000
namespace Py
open PySem
structure Has04 (P : Prg) : Prop where
  g : HasReck P
  s : HasSub P
  law : P.fn "law" = some fd_law
theorem Ret.ex {o : COut} {Q : Val → List Val → Prop} (h : Ret o Q fun _ _ => False) : ∃ v io, o = .ret v io ∧ Q v io := by
  cases o with
  | ret v io => exact ⟨v, io, rfl, h⟩
  | exn c io => exact h.elim
  | bad => exact h.elim
def kinds04 : List Str := ["add", "add", "less", "zero", "beside"]
theorem kinds04_ok : Kinds kinds04 := ⟨by decide +kernel, by decide +kernel⟩
theorem plus_mem : ∀ (xs ys : List Int) (x : Int), x ∈ plus xs ys → ∃ a ∈ xs, ∃ b ∈ ys, x = a + b
  | a :: xs, b :: ys, x, h => by
    rcases List.mem_cons.mp (show x ∈ (a + b) :: plus xs ys from h) with rfl | h
    · exact ⟨a, List.mem_cons_self, b, List.mem_cons_self, rfl⟩
    · obtain ⟨c, hc, d, hd, e⟩ := plus_mem xs ys x h
      exact ⟨c, List.mem_cons_of_mem _ hc, d, List.mem_cons_of_mem _ hd, e⟩
  | [], ys, x, h => by cases h
  | a :: xs, [], x, h => by cases h
theorem small_mul {k y : Int} (h0 : -3 ≤ k) (h1 : k ≤ 3) (hy : -1000 ≤ y ∧ y ≤ 1000) : -9999 ≤ k * y ∧ k * y ≤ 9999 := by
  have : k = -3 ∨ k = -2 ∨ k = -1 ∨ k = 0 ∨ k = 1 ∨ k = 2 ∨ k = 3 := by omega
  rcases this with rfl | rfl | rfl | rfl | rfl | rfl | rfl <;> omega
theorem law04 {P : Prg} (h : Has04 P) (hf : 20 ≤ P.fuel) (N : Nat) (hN : 20 ≤ N) (ns : List Int) : callF P N "law" [(.scr ns, .fz)] = .ret (.bl true, .fz) [] := by
  obtain ⟨N, rfl⟩ : ∃ M, N = M + 20 := ⟨N - 20, by omega⟩
  refine Ret.eq (call_run h.law rfl ?_)
  have e1 := law_draw h.g.toHasDraw (N + 16) ns [] 7 (by decide) (by decide)
  obtain ⟨g0, g1⟩ := drawn_lt ns [] (many := 7) (by decide)
  generalize drawn ns [] 7 = dm at e1 g0 g1
  obtain ⟨v, io, e2, rs, us, k, hus, hg, hc, hk, rfl, rfl⟩ := (law_reckoning h.g hf (N + 19) (by omega) ns [.int 0] 5 (by decide) kinds04 kinds04_ok (by decide)).ex
  have hus' : us.Nodup ∧ ∀ u ∈ us, 0 ≤ u ∧ u ≤ 5 := by
    unfold unitSets at hus
    simp only [List.mem_cons, List.not_mem_nil, or_false] at hus
    rcases hus with rfl | rfl | rfl | rfl <;> exact ⟨by decide, by decide⟩
  have ho : rs.ok 3 := Rows.gen_ok rs us 3 hus'.1 hus'.2 (by decide) hg
  have hl : rs.lin := Rows.gen_lin (by decide +kernel) (by decide +kernel) rs us 3 hg
  have ht : tight (dm - 3) = true := tight_of (by omega)
  have rk := fun xs hx hb => reckoned h.s (N + 19) (by omega) rs ho hl hc xs hx hb
  have b2 : 2 ≤ big := by decide
  have b1 : 1 ≤ big := by decide
  have b5 : 5 ≤ big := by decide
  have rng : (rangeOk 6 && decide ((6 : Int) ≤ 1000000)) = true := by decide
  unfold town at e1 e2
  simp only [List.nil_append] at e1
  have e2' : callF P (N + 19) "_law_reckoning" [(.scr ns, .fz), (.lst [.int 0], .un .fz), (.int 5, .fz), (.tup [.str "add", .str "add", .str "less", .str "zero", .str "beside"], .fz)] = .ret (.tup rs.encs, .fz) [(.lst ([.int 0] ++ zs k), .un .fz)] := e2
  simp only [fd_law, ↓rE_cst, ↓rE_glb, ↓rE_var, ↓rE_mov, ↓rE_tup, ↓rE_lst, ↓rE_op, ↓rE_ife, ↓rE_and, ↓rE_or, ↓rE_not, ↓rE_chain, ↓rE_call, ↓rE_mth, ↓rE_comp, ↓rE_dsp, ↓rO_var, ↓rO_op, ↓rO_cst, ↓rO_glb, ↓rO_mov, ↓rO_tup, ↓rO_lst, ↓rO_ife, ↓rO_and, ↓rO_or, ↓rO_not, ↓rO_chain, ↓rO_mth, ↓rO_call, ↓rO_comp, ↓rO_dsp, ↓rA_nil, ↓rA_cons, ↓rL_nil, ↓rL_cons, ↓rT_and, ↓rT_or, ↓rT_not, ↓rT_var, ↓rT_op, ↓rT_chain, ↓rT_call, ↓rT_cst, ↓rT_ife, ↓rI_seq, ↓rI_rng1, ↓rI_zip, ↓rB_nil, ↓rB_cons, ↓rS_asg, ↓rS_par, ↓rS_ex, ↓rS_ret, ↓rS_retN, ↓rS_iff, ↓rS_for, ↓rS_whl, ↓rS_rse, ↓rS_app, ↓rS_ext, ↓rS_sub, ↓run_pure, ↓run_bind, ↓run_ok, ↓run_exn, ↓run_bad, ↓r_getV, ↓got_some, ↓got_none, ↓got_map, ↓got_ite, ↓kB_bl, ↓gets_fz, ↓gets_un, ↓gets_tu, ↓movs_fz, ↓movs_un, ↓movs_tu, ↓next_next, ↓next_ret, ↓next_brk, ↓next_cnt, ↓ret_ret, ↓ret_exn, ↓ret_bad, ↓run_ite, ↓run_iteo, ↓run_of, ↓fin_ret, ↓fin_next, ↓finX_eq, ↓run_mbad, slot, rds, AV.rd, Own.simple, sv, Prim.run, Prim.ints, fzv, newl, outs, asgP, setAll, tupV, ownT, lstV, itemV, seqOf, lstOf, intOf, p_add, p_sub, p_mul, p_mod, p_fdiv, p_pow, p_neg, p_lt, p_le, p_gt, p_ge, p_isNone, p_notNone, p_idx, p_slLo, p_slHi, p_len, p_tuple, p_list, p_max2, p_min2, p_abs, p_int_, D.flat, passA, backA, takeA, frzA, List.getElem?_cons_zero, List.getElem?_cons_succ, Option.bind_some, Option.bind_none, id_eq, ↓reduceIte, List.map_cons, List.map_nil, List.cons_append, List.nil_append, List.replicate, List.set_cons_zero, List.set_cons_succ, and_true, true_and, and_self, eq_self, List.length_cons, List.length_nil, Nat.reduceAdd, Nat.reduceLeDiff, Nat.reduceLT, Bool.true_eq_false, Bool.false_eq_true, decide_true, decide_false, if_true, if_false, decide_eq_true_eq, Bool.and_eq_true, Bool.or_eq_true, List.all_cons, List.all_nil, Bool.and_true, Bool.and_self, ↓run_callG h.g.draw, ↓io__law_draw, e1, ↓run_callG h.g.reck, ↓io__law_reckoning, e2', b5, Int.reduceLE]
  refine ⟨by decide, by decide, ?_⟩
  refine draws6 h.g.toHasDraw (N + 16) ns _ (by rw [List.length_cons]; unfold zs; rw [List.length_replicate]; omega) _ _ _ _ _ _ _ _ _ _ _ ?_
  intro one k1 l1 c1 k1'
  simp only [↓rE_cst, ↓rE_glb, ↓rE_var, ↓rE_mov, ↓rE_tup, ↓rE_lst, ↓rE_op, ↓rE_ife, ↓rE_and, ↓rE_or, ↓rE_not, ↓rE_chain, ↓rE_call, ↓rE_mth, ↓rE_comp, ↓rE_dsp, ↓rO_var, ↓rO_op, ↓rO_cst, ↓rO_glb, ↓rO_mov, ↓rO_tup, ↓rO_lst, ↓rO_ife, ↓rO_and, ↓rO_or, ↓rO_not, ↓rO_chain, ↓rO_mth, ↓rO_call, ↓rO_comp, ↓rO_dsp, ↓rA_nil, ↓rA_cons, ↓rL_nil, ↓rL_cons, ↓rT_and, ↓rT_or, ↓rT_not, ↓rT_var, ↓rT_op, ↓rT_chain, ↓rT_call, ↓rT_cst, ↓rT_ife, ↓rI_seq, ↓rI_rng1, ↓rI_zip, ↓rB_nil, ↓rB_cons, ↓rS_asg, ↓rS_par, ↓rS_ex, ↓rS_ret, ↓rS_retN, ↓rS_iff, ↓rS_for, ↓rS_whl, ↓rS_rse, ↓rS_app, ↓rS_ext, ↓rS_sub, ↓run_pure, ↓run_bind, ↓run_ok, ↓run_exn, ↓run_bad, ↓r_getV, ↓got_some, ↓got_none, ↓got_map, ↓got_ite, ↓kB_bl, ↓gets_fz, ↓gets_un, ↓gets_tu, ↓movs_fz, ↓movs_un, ↓movs_tu, ↓next_next, ↓next_ret, ↓next_brk, ↓next_cnt, ↓ret_ret, ↓ret_exn, ↓ret_bad, ↓run_ite, ↓run_iteo, ↓run_of, ↓fin_ret, ↓fin_next, ↓finX_eq, ↓run_mbad, slot, rds, AV.rd, Own.simple, sv, Prim.run, Prim.ints, fzv, newl, outs, asgP, setAll, tupV, ownT, lstV, itemV, seqOf, lstOf, intOf, p_add, p_sub, p_mul, p_mod, p_fdiv, p_pow, p_neg, p_lt, p_le, p_gt, p_ge, p_isNone, p_notNone, p_idx, p_slLo, p_slHi, p_len, p_tuple, p_list, p_max2, p_min2, p_abs, p_int_, D.flat, passA, backA, takeA, frzA, List.getElem?_cons_zero, List.getElem?_cons_succ, Option.bind_some, Option.bind_none, id_eq, ↓reduceIte, List.map_cons, List.map_nil, List.cons_append, List.nil_append, List.replicate, List.set_cons_zero, List.set_cons_succ, and_true, true_and, and_self, eq_self, List.length_cons, List.length_nil, Nat.reduceAdd, Nat.reduceLeDiff, Nat.reduceLT, Bool.true_eq_false, Bool.false_eq_true, decide_true, decide_false, if_true, if_false, decide_eq_true_eq, Bool.and_eq_true, Bool.or_eq_true, List.all_cons, List.all_nil, Bool.and_true, Bool.and_self, Int.reduceLE]
  refine ⟨by decide, ?_⟩
  refine draws6 h.g.toHasDraw (N + 16) ns _ (by rw [List.length_cons, List.length_append]; unfold zs; rw [List.length_replicate, List.length_replicate]; omega) _ _ _ _ _ _ _ _ _ _ _ ?_
  intro other k2 l2 c2 k2'
  have il : ∀ xs : List Int, (intsD xs).length = xs.length := fun xs => by unfold intsD; rw [List.length_map]
  have b6 : 6 ≤ big := by decide
  simp only [↓rE_cst, ↓rE_glb, ↓rE_var, ↓rE_mov, ↓rE_tup, ↓rE_lst, ↓rE_op, ↓rE_ife, ↓rE_and, ↓rE_or, ↓rE_not, ↓rE_chain, ↓rE_call, ↓rE_mth, ↓rE_comp, ↓rE_dsp, ↓rO_var, ↓rO_op, ↓rO_cst, ↓rO_glb, ↓rO_mov, ↓rO_tup, ↓rO_lst, ↓rO_ife, ↓rO_and, ↓rO_or, ↓rO_not, ↓rO_chain, ↓rO_mth, ↓rO_call, ↓rO_comp, ↓rO_dsp, ↓rA_nil, ↓rA_cons, ↓rL_nil, ↓rL_cons, ↓rT_and, ↓rT_or, ↓rT_not, ↓rT_var, ↓rT_op, ↓rT_chain, ↓rT_call, ↓rT_cst, ↓rT_ife, ↓rI_seq, ↓rI_rng1, ↓rI_zip, ↓rB_nil, ↓rB_cons, ↓rS_asg, ↓rS_par, ↓rS_ex, ↓rS_ret, ↓rS_retN, ↓rS_iff, ↓rS_for, ↓rS_whl, ↓rS_rse, ↓rS_app, ↓rS_ext, ↓rS_sub, ↓run_pure, ↓run_bind, ↓run_ok, ↓run_exn, ↓run_bad, ↓r_getV, ↓got_some, ↓got_none, ↓got_map, ↓got_ite, ↓kB_bl, ↓gets_fz, ↓gets_un, ↓gets_tu, ↓movs_fz, ↓movs_un, ↓movs_tu, ↓next_next, ↓next_ret, ↓next_brk, ↓next_cnt, ↓ret_ret, ↓ret_exn, ↓ret_bad, ↓run_ite, ↓run_iteo, ↓run_of, ↓fin_ret, ↓fin_next, ↓finX_eq, ↓run_mbad, slot, rds, AV.rd, Own.simple, sv, Prim.run, Prim.ints, fzv, newl, outs, asgP, setAll, tupV, ownT, lstV, itemV, seqOf, lstOf, intOf, p_add, p_sub, p_mul, p_mod, p_fdiv, p_pow, p_neg, p_lt, p_le, p_gt, p_ge, p_isNone, p_notNone, p_idx, p_slLo, p_slHi, p_len, p_tuple, p_list, p_max2, p_min2, p_abs, p_int_, D.flat, passA, backA, takeA, frzA, List.getElem?_cons_zero, List.getElem?_cons_succ, Option.bind_some, Option.bind_none, id_eq, ↓reduceIte, List.map_cons, List.map_nil, List.cons_append, List.nil_append, List.replicate, List.set_cons_zero, List.set_cons_succ, and_true, true_and, and_self, eq_self, List.length_cons, List.length_nil, Nat.reduceAdd, Nat.reduceLeDiff, Nat.reduceLT, Bool.true_eq_false, Bool.false_eq_true, decide_true, decide_false, if_true, if_false, decide_eq_true_eq, Bool.and_eq_true, Bool.or_eq_true, List.all_cons, List.all_nil, Bool.and_true, Bool.and_self, D.kind, il, l1, b6]
  refine zip_add one other (by omega) _ _ _ _ _ _ _ _ _ _ _ _ ?_
  have lb : (plus one other).length = 6 := by rw [plus_len (by omega), l1]
  have r1 := rk one l1 fun x hx => by have := c1 x hx; omega
  have r2 := rk other l2 fun x hx => by have := c2 x hx; omega
  have r3 := rk (plus one other) lb fun x hx => by
    obtain ⟨a, ha, b, hb, rfl⟩ := plus_mem _ _ _ hx
    have := c1 a ha
    have := c2 b hb
    omega
  simp only [↓rE_cst, ↓rE_glb, ↓rE_var, ↓rE_mov, ↓rE_tup, ↓rE_lst, ↓rE_op, ↓rE_ife, ↓rE_and, ↓rE_or, ↓rE_not, ↓rE_chain, ↓rE_call, ↓rE_mth, ↓rE_comp, ↓rE_dsp, ↓rO_var, ↓rO_op, ↓rO_cst, ↓rO_glb, ↓rO_mov, ↓rO_tup, ↓rO_lst, ↓rO_ife, ↓rO_and, ↓rO_or, ↓rO_not, ↓rO_chain, ↓rO_mth, ↓rO_call, ↓rO_comp, ↓rO_dsp, ↓rA_nil, ↓rA_cons, ↓rL_nil, ↓rL_cons, ↓rT_and, ↓rT_or, ↓rT_not, ↓rT_var, ↓rT_op, ↓rT_chain, ↓rT_call, ↓rT_cst, ↓rT_ife, ↓rI_seq, ↓rI_rng1, ↓rI_zip, ↓rB_nil, ↓rB_cons, ↓rS_asg, ↓rS_par, ↓rS_ex, ↓rS_ret, ↓rS_retN, ↓rS_iff, ↓rS_for, ↓rS_whl, ↓rS_rse, ↓rS_app, ↓rS_ext, ↓rS_sub, ↓run_pure, ↓run_bind, ↓run_ok, ↓run_exn, ↓run_bad, ↓r_getV, ↓got_some, ↓got_none, ↓got_map, ↓got_ite, ↓kB_bl, ↓gets_fz, ↓gets_un, ↓gets_tu, ↓movs_fz, ↓movs_un, ↓movs_tu, ↓next_next, ↓next_ret, ↓next_brk, ↓next_cnt, ↓ret_ret, ↓ret_exn, ↓ret_bad, ↓run_ite, ↓run_iteo, ↓run_of, ↓fin_ret, ↓fin_next, ↓finX_eq, ↓run_mbad, slot, rds, AV.rd, Own.simple, sv, Prim.run, Prim.ints, fzv, newl, outs, asgP, setAll, tupV, ownT, lstV, itemV, seqOf, lstOf, intOf, p_add, p_sub, p_mul, p_mod, p_fdiv, p_pow, p_neg, p_lt, p_le, p_gt, p_ge, p_isNone, p_notNone, p_idx, p_slLo, p_slHi, p_len, p_tuple, p_list, p_max2, p_min2, p_abs, p_int_, D.flat, passA, backA, takeA, frzA, List.getElem?_cons_zero, List.getElem?_cons_succ, Option.bind_some, Option.bind_none, id_eq, ↓reduceIte, List.map_cons, List.map_nil, List.cons_append, List.nil_append, List.replicate, List.set_cons_zero, List.set_cons_succ, and_true, true_and, and_self, eq_self, List.length_cons, List.length_nil, Nat.reduceAdd, Nat.reduceLeDiff, Nat.reduceLT, Bool.true_eq_false, Bool.false_eq_true, decide_true, decide_false, if_true, if_false, decide_eq_true_eq, Bool.and_eq_true, Bool.or_eq_true, List.all_cons, List.all_nil, Bool.and_true, Bool.and_self, ↓run_callG h.s.reck, ↓io_reckoned, r1, r2, r3, at0, at1, D.kind, il, Rows.act_len, l1, b6]
  refine zip_add (rs.act one) (rs.act other) (by rw [Rows.act_len, Rows.act_len, l1, l2]) _ _ _ _ _ _ _ _ _ _ _ _ ?_
  rw [← Rows.act_plus rs one other hl (by omega)]
  simp only [↓rE_cst, ↓rE_glb, ↓rE_var, ↓rE_mov, ↓rE_tup, ↓rE_lst, ↓rE_op, ↓rE_ife, ↓rE_and, ↓rE_or, ↓rE_not, ↓rE_chain, ↓rE_call, ↓rE_mth, ↓rE_comp, ↓rE_dsp, ↓rO_var, ↓rO_op, ↓rO_cst, ↓rO_glb, ↓rO_mov, ↓rO_tup, ↓rO_lst, ↓rO_ife, ↓rO_and, ↓rO_or, ↓rO_not, ↓rO_chain, ↓rO_mth, ↓rO_call, ↓rO_comp, ↓rO_dsp, ↓rA_nil, ↓rA_cons, ↓rL_nil, ↓rL_cons, ↓rT_and, ↓rT_or, ↓rT_not, ↓rT_var, ↓rT_op, ↓rT_chain, ↓rT_call, ↓rT_cst, ↓rT_ife, ↓rI_seq, ↓rI_rng1, ↓rI_zip, ↓rB_nil, ↓rB_cons, ↓rS_asg, ↓rS_par, ↓rS_ex, ↓rS_ret, ↓rS_retN, ↓rS_iff, ↓rS_for, ↓rS_whl, ↓rS_rse, ↓rS_app, ↓rS_ext, ↓rS_sub, ↓run_pure, ↓run_bind, ↓run_ok, ↓run_exn, ↓run_bad, ↓r_getV, ↓got_some, ↓got_none, ↓got_map, ↓got_ite, ↓kB_bl, ↓gets_fz, ↓gets_un, ↓gets_tu, ↓movs_fz, ↓movs_un, ↓movs_tu, ↓next_next, ↓next_ret, ↓next_brk, ↓next_cnt, ↓ret_ret, ↓ret_exn, ↓ret_bad, ↓run_ite, ↓run_iteo, ↓run_of, ↓fin_ret, ↓fin_next, ↓finX_eq, ↓run_mbad, slot, rds, AV.rd, Own.simple, sv, Prim.run, Prim.ints, fzv, newl, outs, asgP, setAll, tupV, ownT, lstV, itemV, seqOf, lstOf, intOf, p_add, p_sub, p_mul, p_mod, p_fdiv, p_pow, p_neg, p_lt, p_le, p_gt, p_ge, p_isNone, p_notNone, p_idx, p_slLo, p_slHi, p_len, p_tuple, p_list, p_max2, p_min2, p_abs, p_int_, D.flat, passA, backA, takeA, frzA, List.getElem?_cons_zero, List.getElem?_cons_succ, Option.bind_some, Option.bind_none, id_eq, ↓reduceIte, List.map_cons, List.map_nil, List.cons_append, List.nil_append, List.replicate, List.set_cons_zero, List.set_cons_succ, and_true, true_and, and_self, eq_self, List.length_cons, List.length_nil, Nat.reduceAdd, Nat.reduceLeDiff, Nat.reduceLT, Bool.true_eq_false, Bool.false_eq_true, decide_true, decide_false, if_true, if_false, decide_eq_true_eq, Bool.and_eq_true, Bool.or_eq_true, List.all_cons, List.all_nil, Bool.and_true, Bool.and_self, p_ne, eq_ints, Option.map_some, eq_int, at1, Bool.not_true, at0]
  refine map_mul (dm - 3) ht one _ _ _ _ _ _ _ _ _ _ _ _ ?_
  have r4 := rk (times (dm - 3) one) (by unfold times; rw [List.length_map, l1]) fun x hx => by
    unfold times at hx
    obtain ⟨y, hy, rfl⟩ := List.mem_map.mp hx
    exact small_mul (by omega) (by omega) (c1 y hy)
  rw [Rows.act_times _ _ _ hl] at r4
  simp only [↓rE_cst, ↓rE_glb, ↓rE_var, ↓rE_mov, ↓rE_tup, ↓rE_lst, ↓rE_op, ↓rE_ife, ↓rE_and, ↓rE_or, ↓rE_not, ↓rE_chain, ↓rE_call, ↓rE_mth, ↓rE_comp, ↓rE_dsp, ↓rO_var, ↓rO_op, ↓rO_cst, ↓rO_glb, ↓rO_mov, ↓rO_tup, ↓rO_lst, ↓rO_ife, ↓rO_and, ↓rO_or, ↓rO_not, ↓rO_chain, ↓rO_mth, ↓rO_call, ↓rO_comp, ↓rO_dsp, ↓rA_nil, ↓rA_cons, ↓rL_nil, ↓rL_cons, ↓rT_and, ↓rT_or, ↓rT_not, ↓rT_var, ↓rT_op, ↓rT_chain, ↓rT_call, ↓rT_cst, ↓rT_ife, ↓rI_seq, ↓rI_rng1, ↓rI_zip, ↓rB_nil, ↓rB_cons, ↓rS_asg, ↓rS_par, ↓rS_ex, ↓rS_ret, ↓rS_retN, ↓rS_iff, ↓rS_for, ↓rS_whl, ↓rS_rse, ↓rS_app, ↓rS_ext, ↓rS_sub, ↓run_pure, ↓run_bind, ↓run_ok, ↓run_exn, ↓run_bad, ↓r_getV, ↓got_some, ↓got_none, ↓got_map, ↓got_ite, ↓kB_bl, ↓gets_fz, ↓gets_un, ↓gets_tu, ↓movs_fz, ↓movs_un, ↓movs_tu, ↓next_next, ↓next_ret, ↓next_brk, ↓next_cnt, ↓ret_ret, ↓ret_exn, ↓ret_bad, ↓run_ite, ↓run_iteo, ↓run_of, ↓fin_ret, ↓fin_next, ↓finX_eq, ↓run_mbad, slot, rds, AV.rd, Own.simple, sv, Prim.run, Prim.ints, fzv, newl, outs, asgP, setAll, tupV, ownT, lstV, itemV, seqOf, lstOf, intOf, p_add, p_sub, p_mul, p_mod, p_fdiv, p_pow, p_neg, p_lt, p_le, p_gt, p_ge, p_isNone, p_notNone, p_idx, p_slLo, p_slHi, p_len, p_tuple, p_list, p_max2, p_min2, p_abs, p_int_, D.flat, passA, backA, takeA, frzA, List.getElem?_cons_zero, List.getElem?_cons_succ, Option.bind_some, Option.bind_none, id_eq, ↓reduceIte, List.map_cons, List.map_nil, List.cons_append, List.nil_append, List.replicate, List.set_cons_zero, List.set_cons_succ, and_true, true_and, and_self, eq_self, List.length_cons, List.length_nil, Nat.reduceAdd, Nat.reduceLeDiff, Nat.reduceLT, Bool.true_eq_false, Bool.false_eq_true, decide_true, decide_false, if_true, if_false, decide_eq_true_eq, Bool.and_eq_true, Bool.or_eq_true, List.all_cons, List.all_nil, Bool.and_true, Bool.and_self, ↓run_callG h.s.reck, ↓io_reckoned, r4, at0]
  refine map_mul (dm - 3) ht (rs.act one) _ _ _ _ _ _ _ _ _ _ _ _ ?_
  have r5 := rk (List.replicate 6 0) rfl (by decide)
  rw [Rows.act_zero rs hl] at r5
  have z7 : (List.replicate (6 : Int).toNat [D.int 0]).flatten = intsD [0, 0, 0, 0, 0, 0] := rfl
  have r6 : callF P (N + 19) "reckoned" [(.tup rs.encs, .fz), (.tup (intsD [0, 0, 0, 0, 0, 0]), .fz)] = .ret (.tup [.tup (intsD [0, 0, 0, 0, 0, 0]), .int rs.bts], .fz) [] := r5
  have b16 : 1 * Int.toNat 6 ≤ big := by decide
  simp only [↓rE_cst, ↓rE_glb, ↓rE_var, ↓rE_mov, ↓rE_tup, ↓rE_lst, ↓rE_op, ↓rE_ife, ↓rE_and, ↓rE_or, ↓rE_not, ↓rE_chain, ↓rE_call, ↓rE_mth, ↓rE_comp, ↓rE_dsp, ↓rO_var, ↓rO_op, ↓rO_cst, ↓rO_glb, ↓rO_mov, ↓rO_tup, ↓rO_lst, ↓rO_ife, ↓rO_and, ↓rO_or, ↓rO_not, ↓rO_chain, ↓rO_mth, ↓rO_call, ↓rO_comp, ↓rO_dsp, ↓rA_nil, ↓rA_cons, ↓rL_nil, ↓rL_cons, ↓rT_and, ↓rT_or, ↓rT_not, ↓rT_var, ↓rT_op, ↓rT_chain, ↓rT_call, ↓rT_cst, ↓rT_ife, ↓rI_seq, ↓rI_rng1, ↓rI_zip, ↓rB_nil, ↓rB_cons, ↓rS_asg, ↓rS_par, ↓rS_ex, ↓rS_ret, ↓rS_retN, ↓rS_iff, ↓rS_for, ↓rS_whl, ↓rS_rse, ↓rS_app, ↓rS_ext, ↓rS_sub, ↓run_pure, ↓run_bind, ↓run_ok, ↓run_exn, ↓run_bad, ↓r_getV, ↓got_some, ↓got_none, ↓got_map, ↓got_ite, ↓kB_bl, ↓gets_fz, ↓gets_un, ↓gets_tu, ↓movs_fz, ↓movs_un, ↓movs_tu, ↓next_next, ↓next_ret, ↓next_brk, ↓next_cnt, ↓ret_ret, ↓ret_exn, ↓ret_bad, ↓run_ite, ↓run_iteo, ↓run_of, ↓fin_ret, ↓fin_next, ↓finX_eq, ↓run_mbad, slot, rds, AV.rd, Own.simple, sv, Prim.run, Prim.ints, fzv, newl, outs, asgP, setAll, tupV, ownT, lstV, itemV, seqOf, lstOf, intOf, p_add, p_sub, p_mul, p_mod, p_fdiv, p_pow, p_neg, p_lt, p_le, p_gt, p_ge, p_isNone, p_notNone, p_idx, p_slLo, p_slHi, p_len, p_tuple, p_list, p_max2, p_min2, p_abs, p_int_, D.flat, passA, backA, takeA, frzA, List.getElem?_cons_zero, List.getElem?_cons_succ, Option.bind_some, Option.bind_none, id_eq, ↓reduceIte, List.map_cons, List.map_nil, List.cons_append, List.nil_append, List.replicate, List.set_cons_zero, List.set_cons_succ, and_true, true_and, and_self, eq_self, List.length_cons, List.length_nil, Nat.reduceAdd, Nat.reduceLeDiff, Nat.reduceLT, Bool.true_eq_false, Bool.false_eq_true, decide_true, decide_false, if_true, if_false, decide_eq_true_eq, Bool.and_eq_true, Bool.or_eq_true, List.all_cons, List.all_nil, Bool.and_true, Bool.and_self, at1, b2, b1, b16, p_ne, p_eq, eq_pair, Option.map_some, Bool.not_true, z7, ↓run_callG h.s.reck, ↓io_reckoned, r6, Int.reduceLE, Int.reduceNeg]
end Py

namespace Py
open PySem PySem.Spec PyProof.Rows L2
def top (i : Nat) : Stmt := PySem.Challenge.pw_plugtrays_k04_whole_linear.main.body.getD i (.Pass ⟨0, 0, 0, 0⟩)
def df_is_whole : Df := ⟨"is_whole", top 11, ["thing", "low", "most"], ["thing", "low", "most"], fd_is_whole⟩
def df_is_unit : Df := ⟨"is_unit", top 12, ["thing"], ["thing"], fd_is_unit⟩
def df_inner_of : Df := ⟨"inner_of", top 13, ["row"], ["row"], fd_inner_of⟩
def df_is_sum_row : Df := ⟨"is_sum_row", top 14, ["thing"], ["thing"], fd_is_sum_row⟩
def df_is_row : Df := ⟨"is_row", top 15, ["thing", "deep", "rows"], ["thing", "deep"], fd_is_row⟩
def df_is_apart : Df := ⟨"is_apart", top 16, ["row", "one", "other", "unit"], ["row"], fd_is_apart⟩
def df_are_rows : Df := ⟨"are_rows", top 17, ["thing", "deep", "row"], ["thing", "deep"], fd_are_rows⟩
def df_count_of : Df := ⟨"count_of", top 18, ["rows", "row", "inner"], ["rows"], fd_count_of⟩
def df_own_units : Df := ⟨"own_units", top 19, ["row"], ["row"], fd_own_units⟩
def df_units_in : Df := ⟨"units_in", top 20, ["rows", "some", "row", "inner"], ["rows"], fd_units_in⟩
def df_need_rows : Df := ⟨"need_rows", top 21, ["thing"], ["thing"], fd_need_rows⟩
def df_need_numbers : Df := ⟨"need_numbers", top 22, ["thing", "one"], ["thing"], fd_need_numbers⟩
def df_step_on : Df := ⟨"step_on", top 25, ["beat", "many"], ["beat", "many"], fd_step_on⟩
def df_rows_done : Df := ⟨"rows_done", top 26, ["rows", "numbers", "beat", "row"], ["rows", "numbers", "beat"], fd_rows_done⟩
def df_row_done : Df := ⟨"row_done", top 27, ["row", "numbers", "beat", "sign"], ["row", "numbers", "beat"], fd_row_done⟩
def df_reckoned : Df := ⟨"reckoned", top 28, ["rows", "numbers", "some", "beat"], ["rows", "numbers"], fd_reckoned⟩
def df__law_cell_at : Df := ⟨"_law_cell_at", top 30, ["script", "k"], ["script", "k"], fd__law_cell_at⟩
def df__law_mixed : Df := ⟨"_law_mixed", top 31, ["script", "k", "many", "drawn"], ["script", "k", "many"], fd__law_mixed⟩
def df__law_draw : Df := ⟨"_law_draw", top 32, ["script", "town", "many"], ["script", "town", "many"], fd__law_draw⟩
def df__law_pick : Df := ⟨"_law_pick", top 33, ["script", "town", "some"], ["script", "town", "some"], fd__law_pick⟩
def df__law_some_units : Df := ⟨"_law_some_units", top 34, ["script", "town", "units", "one", "other"], ["script", "town", "units"], fd__law_some_units⟩
def df__law_row : Df := ⟨"_law_row", top 35, ["script", "town", "units", "deep", "kinds", "kind", "many", "few", "at", "first", "last", "one", "other", "rows", "rest"], ["script", "town", "units", "deep", "kinds"], fd__law_row⟩
def df__law_rows : Df := ⟨"_law_rows", top 36, ["script", "town", "units", "deep", "many", "kinds", "k"], ["script", "town", "units", "deep", "many", "kinds"], fd__law_rows⟩
def df__law_inner : Df := ⟨"_law_inner", top 37, ["row"], ["row"], fd__law_inner⟩
def df__law_count : Df := ⟨"_law_count", top 38, ["rows", "row", "inner"], ["rows"], fd__law_count⟩
def df__law_reckoning : Df := ⟨"_law_reckoning", top 39, ["script", "town", "most", "kinds", "units", "rows"], ["script", "town", "most", "kinds"], fd__law_reckoning⟩
def df_law : Df := ⟨"law", top 40, ["script", "town", "many", "rows", "one", "other", "both", "fourth", "first", "second", "third", "k", "a", "b"], ["script"], fd_law⟩
def sg : Sig := ⟨["all", "any", "bool", "int", "isinstance", "len", "list", "max", "range", "str", "sum", "tuple", "zip"], ["is_whole", "is_unit", "inner_of", "is_sum_row", "is_row", "is_apart", "are_rows", "count_of", "own_units", "units_in", "need_rows", "need_numbers", "step_on", "rows_done", "row_done", "reckoned", "_law_cell_at", "_law_mixed", "_law_draw", "_law_pick", "_law_some_units", "_law_row", "_law_rows", "_law_inner", "_law_count", "_law_reckoning", "law"], ["Endless", "NoNumbers", "NoReckoning"]⟩
def tab : List Df := [df_is_whole, df_is_unit, df_inner_of, df_is_sum_row, df_is_row, df_is_apart, df_are_rows, df_count_of, df_own_units, df_units_in, df_need_rows, df_need_numbers, df_step_on, df_rows_done, df_row_done, df_reckoned, df__law_cell_at, df__law_mixed, df__law_draw, df__law_pick, df__law_some_units, df__law_row, df__law_rows, df__law_inner, df__law_count, df__law_reckoning, df_law]
def fnTab : List (Str × Fd) := [("is_whole", fd_is_whole), ("is_unit", fd_is_unit), ("inner_of", fd_inner_of), ("is_sum_row", fd_is_sum_row), ("is_row", fd_is_row), ("is_apart", fd_is_apart), ("are_rows", fd_are_rows), ("count_of", fd_count_of), ("own_units", fd_own_units), ("units_in", fd_units_in), ("need_rows", fd_need_rows), ("need_numbers", fd_need_numbers), ("step_on", fd_step_on), ("rows_done", fd_rows_done), ("row_done", fd_row_done), ("reckoned", fd_reckoned), ("_law_cell_at", fd__law_cell_at), ("_law_mixed", fd__law_mixed), ("_law_draw", fd__law_draw), ("_law_pick", fd__law_pick), ("_law_some_units", fd__law_some_units), ("_law_row", fd__law_row), ("_law_rows", fd__law_rows), ("_law_inner", fd__law_inner), ("_law_count", fd__law_count), ("_law_reckoning", fd__law_reckoning), ("law", fd_law)]
def gcTab : List (Str × D) := [("BEATS", .int 500), ("DEEP", .int 3), ("GREAT", .int 9999), ("MANY", .int 9), ("ROWS", .int 12), ("UNITS", .int 6)]
def prg : Prg := ⟨fun x => fnTab.lookup x, fun x => gcTab.lookup x, 2000⟩
theorem tab_ok : (tab.all fun d => d.ok sg) = true := by decide +kernel
theorem tab_fn : ∀ d ∈ tab, prg.fn d.name = some d.fd := by
  unfold tab
  repeat (first | exact fun d h => (List.not_mem_nil h).elim | refine List.forall_mem_cons.mpr ⟨rfl, ?_⟩)
theorem tab_has : ∀ x ∈ sg.fns, ∃ d ∈ tab, d.name = x := by
  have h : (sg.fns.all fun x => tab.any fun d => decide (d.name = x)) = true := by decide +kernel
  intro x hx
  obtain ⟨d, hd, e⟩ := List.any_eq_true.mp (List.all_eq_true.mp h x hx)
  exact ⟨d, hd, of_decide_eq_true e⟩
theorem has04 : Has04 prg := ⟨⟨⟨⟨⟨rfl, rfl, rfl, rfl⟩, rfl⟩, rfl, rfl⟩, ⟨rfl, rfl⟩, rfl⟩, ⟨rfl, rfl, rfl, rfl, rfl, rfl, rfl, rfl, rfl, rfl, rfl, rfl, rfl, rfl, rfl, rfl, rfl, rfl, rfl, rfl, rfl, rfl⟩, rfl⟩
theorem math : ∀ ns : List Int, ns.length ≤ 63 → ∃ o, callF prg 100 "law" [(.scr ns, .fz)] = .ret (.bl true, o) [] := fun ns _ => ⟨_, law04 has04 (by decide) 100 (by decide) ns⟩
theorem all_mk {l : PySem.W.OpenLaw} {w : World} {K : PySem.W.Frag} {h : Heap} {mg : Str → Option Value} {fa : Addr} (X : K.In h) (G : h.Ns mainGlobals mg) (hfa : mg "law" = some (.ref fa))
    {f0 : Addr} {od0 an0 : Option Addr} {sl0 : Array (Option Value)} {oc0 kV0 dc0 pm0 cd0 ct0 : Value}
    (a0 : PySem.W.nsIn K mainGlobals "is_whole" = some (some (.ref f0))) (l0 : K.lookup f0 = some ⟨oc0, od0, .func (PySem.W.fnOf "is_whole" "is_whole" (defArgs (top 11)) (defBody (top 11)) (defScope (top 11)) .none kV0 dc0 pm0 an0 cd0 ct0), sl0⟩) (c0 : PySem.W.codeIn K cd0 "is_whole" = true) (k0 : PySem.W.keepIn K (.ref f0) = true)
    {f1 : Addr} {od1 an1 : Option Addr} {sl1 : Array (Option Value)} {oc1 kV1 dc1 pm1 cd1 ct1 : Value}
    (a1 : PySem.W.nsIn K mainGlobals "is_unit" = some (some (.ref f1))) (l1 : K.lookup f1 = some ⟨oc1, od1, .func (PySem.W.fnOf "is_unit" "is_unit" (defArgs (top 12)) (defBody (top 12)) (defScope (top 12)) .none kV1 dc1 pm1 an1 cd1 ct1), sl1⟩) (c1 : PySem.W.codeIn K cd1 "is_unit" = true) (k1 : PySem.W.keepIn K (.ref f1) = true)
    {f2 : Addr} {od2 an2 : Option Addr} {sl2 : Array (Option Value)} {oc2 kV2 dc2 pm2 cd2 ct2 : Value}
    (a2 : PySem.W.nsIn K mainGlobals "inner_of" = some (some (.ref f2))) (l2 : K.lookup f2 = some ⟨oc2, od2, .func (PySem.W.fnOf "inner_of" "inner_of" (defArgs (top 13)) (defBody (top 13)) (defScope (top 13)) .none kV2 dc2 pm2 an2 cd2 ct2), sl2⟩) (c2 : PySem.W.codeIn K cd2 "inner_of" = true) (k2 : PySem.W.keepIn K (.ref f2) = true)
    {f3 : Addr} {od3 an3 : Option Addr} {sl3 : Array (Option Value)} {oc3 kV3 dc3 pm3 cd3 ct3 : Value}
    (a3 : PySem.W.nsIn K mainGlobals "is_sum_row" = some (some (.ref f3))) (l3 : K.lookup f3 = some ⟨oc3, od3, .func (PySem.W.fnOf "is_sum_row" "is_sum_row" (defArgs (top 14)) (defBody (top 14)) (defScope (top 14)) .none kV3 dc3 pm3 an3 cd3 ct3), sl3⟩) (c3 : PySem.W.codeIn K cd3 "is_sum_row" = true) (k3 : PySem.W.keepIn K (.ref f3) = true)
    {f4 : Addr} {od4 an4 : Option Addr} {sl4 : Array (Option Value)} {oc4 kV4 dc4 pm4 cd4 ct4 : Value}
    (a4 : PySem.W.nsIn K mainGlobals "is_row" = some (some (.ref f4))) (l4 : K.lookup f4 = some ⟨oc4, od4, .func (PySem.W.fnOf "is_row" "is_row" (defArgs (top 15)) (defBody (top 15)) (defScope (top 15)) .none kV4 dc4 pm4 an4 cd4 ct4), sl4⟩) (c4 : PySem.W.codeIn K cd4 "is_row" = true) (k4 : PySem.W.keepIn K (.ref f4) = true)
    {f5 : Addr} {od5 an5 : Option Addr} {sl5 : Array (Option Value)} {oc5 kV5 dc5 pm5 cd5 ct5 : Value}
    (a5 : PySem.W.nsIn K mainGlobals "is_apart" = some (some (.ref f5))) (l5 : K.lookup f5 = some ⟨oc5, od5, .func (PySem.W.fnOf "is_apart" "is_apart" (defArgs (top 16)) (defBody (top 16)) (defScope (top 16)) .none kV5 dc5 pm5 an5 cd5 ct5), sl5⟩) (c5 : PySem.W.codeIn K cd5 "is_apart" = true) (k5 : PySem.W.keepIn K (.ref f5) = true)
    {f6 : Addr} {od6 an6 : Option Addr} {sl6 : Array (Option Value)} {oc6 kV6 dc6 pm6 cd6 ct6 : Value}
    (a6 : PySem.W.nsIn K mainGlobals "are_rows" = some (some (.ref f6))) (l6 : K.lookup f6 = some ⟨oc6, od6, .func (PySem.W.fnOf "are_rows" "are_rows" (defArgs (top 17)) (defBody (top 17)) (defScope (top 17)) .none kV6 dc6 pm6 an6 cd6 ct6), sl6⟩) (c6 : PySem.W.codeIn K cd6 "are_rows" = true) (k6 : PySem.W.keepIn K (.ref f6) = true)
    {f7 : Addr} {od7 an7 : Option Addr} {sl7 : Array (Option Value)} {oc7 kV7 dc7 pm7 cd7 ct7 : Value}
    (a7 : PySem.W.nsIn K mainGlobals "count_of" = some (some (.ref f7))) (l7 : K.lookup f7 = some ⟨oc7, od7, .func (PySem.W.fnOf "count_of" "count_of" (defArgs (top 18)) (defBody (top 18)) (defScope (top 18)) .none kV7 dc7 pm7 an7 cd7 ct7), sl7⟩) (c7 : PySem.W.codeIn K cd7 "count_of" = true) (k7 : PySem.W.keepIn K (.ref f7) = true)
    {f8 : Addr} {od8 an8 : Option Addr} {sl8 : Array (Option Value)} {oc8 kV8 dc8 pm8 cd8 ct8 : Value}
    (a8 : PySem.W.nsIn K mainGlobals "own_units" = some (some (.ref f8))) (l8 : K.lookup f8 = some ⟨oc8, od8, .func (PySem.W.fnOf "own_units" "own_units" (defArgs (top 19)) (defBody (top 19)) (defScope (top 19)) .none kV8 dc8 pm8 an8 cd8 ct8), sl8⟩) (c8 : PySem.W.codeIn K cd8 "own_units" = true) (k8 : PySem.W.keepIn K (.ref f8) = true)
    {f9 : Addr} {od9 an9 : Option Addr} {sl9 : Array (Option Value)} {oc9 kV9 dc9 pm9 cd9 ct9 : Value}
    (a9 : PySem.W.nsIn K mainGlobals "units_in" = some (some (.ref f9))) (l9 : K.lookup f9 = some ⟨oc9, od9, .func (PySem.W.fnOf "units_in" "units_in" (defArgs (top 20)) (defBody (top 20)) (defScope (top 20)) .none kV9 dc9 pm9 an9 cd9 ct9), sl9⟩) (c9 : PySem.W.codeIn K cd9 "units_in" = true) (k9 : PySem.W.keepIn K (.ref f9) = true)
    {f10 : Addr} {od10 an10 : Option Addr} {sl10 : Array (Option Value)} {oc10 kV10 dc10 pm10 cd10 ct10 : Value}
    (a10 : PySem.W.nsIn K mainGlobals "need_rows" = some (some (.ref f10))) (l10 : K.lookup f10 = some ⟨oc10, od10, .func (PySem.W.fnOf "need_rows" "need_rows" (defArgs (top 21)) (defBody (top 21)) (defScope (top 21)) .none kV10 dc10 pm10 an10 cd10 ct10), sl10⟩) (c10 : PySem.W.codeIn K cd10 "need_rows" = true) (k10 : PySem.W.keepIn K (.ref f10) = true)
    {f11 : Addr} {od11 an11 : Option Addr} {sl11 : Array (Option Value)} {oc11 kV11 dc11 pm11 cd11 ct11 : Value}
    (a11 : PySem.W.nsIn K mainGlobals "need_numbers" = some (some (.ref f11))) (l11 : K.lookup f11 = some ⟨oc11, od11, .func (PySem.W.fnOf "need_numbers" "need_numbers" (defArgs (top 22)) (defBody (top 22)) (defScope (top 22)) .none kV11 dc11 pm11 an11 cd11 ct11), sl11⟩) (c11 : PySem.W.codeIn K cd11 "need_numbers" = true) (k11 : PySem.W.keepIn K (.ref f11) = true)
    {f12 : Addr} {od12 an12 : Option Addr} {sl12 : Array (Option Value)} {oc12 kV12 dc12 pm12 cd12 ct12 : Value}
    (a12 : PySem.W.nsIn K mainGlobals "step_on" = some (some (.ref f12))) (l12 : K.lookup f12 = some ⟨oc12, od12, .func (PySem.W.fnOf "step_on" "step_on" (defArgs (top 25)) (defBody (top 25)) (defScope (top 25)) .none kV12 dc12 pm12 an12 cd12 ct12), sl12⟩) (c12 : PySem.W.codeIn K cd12 "step_on" = true) (k12 : PySem.W.keepIn K (.ref f12) = true)
    {f13 : Addr} {od13 an13 : Option Addr} {sl13 : Array (Option Value)} {oc13 kV13 dc13 pm13 cd13 ct13 : Value}
    (a13 : PySem.W.nsIn K mainGlobals "rows_done" = some (some (.ref f13))) (l13 : K.lookup f13 = some ⟨oc13, od13, .func (PySem.W.fnOf "rows_done" "rows_done" (defArgs (top 26)) (defBody (top 26)) (defScope (top 26)) .none kV13 dc13 pm13 an13 cd13 ct13), sl13⟩) (c13 : PySem.W.codeIn K cd13 "rows_done" = true) (k13 : PySem.W.keepIn K (.ref f13) = true)
    {f14 : Addr} {od14 an14 : Option Addr} {sl14 : Array (Option Value)} {oc14 kV14 dc14 pm14 cd14 ct14 : Value}
    (a14 : PySem.W.nsIn K mainGlobals "row_done" = some (some (.ref f14))) (l14 : K.lookup f14 = some ⟨oc14, od14, .func (PySem.W.fnOf "row_done" "row_done" (defArgs (top 27)) (defBody (top 27)) (defScope (top 27)) .none kV14 dc14 pm14 an14 cd14 ct14), sl14⟩) (c14 : PySem.W.codeIn K cd14 "row_done" = true) (k14 : PySem.W.keepIn K (.ref f14) = true)
    {f15 : Addr} {od15 an15 : Option Addr} {sl15 : Array (Option Value)} {oc15 kV15 dc15 pm15 cd15 ct15 : Value}
    (a15 : PySem.W.nsIn K mainGlobals "reckoned" = some (some (.ref f15))) (l15 : K.lookup f15 = some ⟨oc15, od15, .func (PySem.W.fnOf "reckoned" "reckoned" (defArgs (top 28)) (defBody (top 28)) (defScope (top 28)) .none kV15 dc15 pm15 an15 cd15 ct15), sl15⟩) (c15 : PySem.W.codeIn K cd15 "reckoned" = true) (k15 : PySem.W.keepIn K (.ref f15) = true)
    {f16 : Addr} {od16 an16 : Option Addr} {sl16 : Array (Option Value)} {oc16 kV16 dc16 pm16 cd16 ct16 : Value}
    (a16 : PySem.W.nsIn K mainGlobals "_law_cell_at" = some (some (.ref f16))) (l16 : K.lookup f16 = some ⟨oc16, od16, .func (PySem.W.fnOf "_law_cell_at" "_law_cell_at" (defArgs (top 30)) (defBody (top 30)) (defScope (top 30)) .none kV16 dc16 pm16 an16 cd16 ct16), sl16⟩) (c16 : PySem.W.codeIn K cd16 "_law_cell_at" = true) (k16 : PySem.W.keepIn K (.ref f16) = true)
    {f17 : Addr} {od17 an17 : Option Addr} {sl17 : Array (Option Value)} {oc17 kV17 dc17 pm17 cd17 ct17 : Value}
    (a17 : PySem.W.nsIn K mainGlobals "_law_mixed" = some (some (.ref f17))) (l17 : K.lookup f17 = some ⟨oc17, od17, .func (PySem.W.fnOf "_law_mixed" "_law_mixed" (defArgs (top 31)) (defBody (top 31)) (defScope (top 31)) .none kV17 dc17 pm17 an17 cd17 ct17), sl17⟩) (c17 : PySem.W.codeIn K cd17 "_law_mixed" = true) (k17 : PySem.W.keepIn K (.ref f17) = true)
    {f18 : Addr} {od18 an18 : Option Addr} {sl18 : Array (Option Value)} {oc18 kV18 dc18 pm18 cd18 ct18 : Value}
    (a18 : PySem.W.nsIn K mainGlobals "_law_draw" = some (some (.ref f18))) (l18 : K.lookup f18 = some ⟨oc18, od18, .func (PySem.W.fnOf "_law_draw" "_law_draw" (defArgs (top 32)) (defBody (top 32)) (defScope (top 32)) .none kV18 dc18 pm18 an18 cd18 ct18), sl18⟩) (c18 : PySem.W.codeIn K cd18 "_law_draw" = true) (k18 : PySem.W.keepIn K (.ref f18) = true)
    {f19 : Addr} {od19 an19 : Option Addr} {sl19 : Array (Option Value)} {oc19 kV19 dc19 pm19 cd19 ct19 : Value}
    (a19 : PySem.W.nsIn K mainGlobals "_law_pick" = some (some (.ref f19))) (l19 : K.lookup f19 = some ⟨oc19, od19, .func (PySem.W.fnOf "_law_pick" "_law_pick" (defArgs (top 33)) (defBody (top 33)) (defScope (top 33)) .none kV19 dc19 pm19 an19 cd19 ct19), sl19⟩) (c19 : PySem.W.codeIn K cd19 "_law_pick" = true) (k19 : PySem.W.keepIn K (.ref f19) = true)
    {f20 : Addr} {od20 an20 : Option Addr} {sl20 : Array (Option Value)} {oc20 kV20 dc20 pm20 cd20 ct20 : Value}
    (a20 : PySem.W.nsIn K mainGlobals "_law_some_units" = some (some (.ref f20))) (l20 : K.lookup f20 = some ⟨oc20, od20, .func (PySem.W.fnOf "_law_some_units" "_law_some_units" (defArgs (top 34)) (defBody (top 34)) (defScope (top 34)) .none kV20 dc20 pm20 an20 cd20 ct20), sl20⟩) (c20 : PySem.W.codeIn K cd20 "_law_some_units" = true) (k20 : PySem.W.keepIn K (.ref f20) = true)
    {f21 : Addr} {od21 an21 : Option Addr} {sl21 : Array (Option Value)} {oc21 kV21 dc21 pm21 cd21 ct21 : Value}
    (a21 : PySem.W.nsIn K mainGlobals "_law_row" = some (some (.ref f21))) (l21 : K.lookup f21 = some ⟨oc21, od21, .func (PySem.W.fnOf "_law_row" "_law_row" (defArgs (top 35)) (defBody (top 35)) (defScope (top 35)) .none kV21 dc21 pm21 an21 cd21 ct21), sl21⟩) (c21 : PySem.W.codeIn K cd21 "_law_row" = true) (k21 : PySem.W.keepIn K (.ref f21) = true)
    {f22 : Addr} {od22 an22 : Option Addr} {sl22 : Array (Option Value)} {oc22 kV22 dc22 pm22 cd22 ct22 : Value}
    (a22 : PySem.W.nsIn K mainGlobals "_law_rows" = some (some (.ref f22))) (l22 : K.lookup f22 = some ⟨oc22, od22, .func (PySem.W.fnOf "_law_rows" "_law_rows" (defArgs (top 36)) (defBody (top 36)) (defScope (top 36)) .none kV22 dc22 pm22 an22 cd22 ct22), sl22⟩) (c22 : PySem.W.codeIn K cd22 "_law_rows" = true) (k22 : PySem.W.keepIn K (.ref f22) = true)
    {f23 : Addr} {od23 an23 : Option Addr} {sl23 : Array (Option Value)} {oc23 kV23 dc23 pm23 cd23 ct23 : Value}
    (a23 : PySem.W.nsIn K mainGlobals "_law_inner" = some (some (.ref f23))) (l23 : K.lookup f23 = some ⟨oc23, od23, .func (PySem.W.fnOf "_law_inner" "_law_inner" (defArgs (top 37)) (defBody (top 37)) (defScope (top 37)) .none kV23 dc23 pm23 an23 cd23 ct23), sl23⟩) (c23 : PySem.W.codeIn K cd23 "_law_inner" = true) (k23 : PySem.W.keepIn K (.ref f23) = true)
    {f24 : Addr} {od24 an24 : Option Addr} {sl24 : Array (Option Value)} {oc24 kV24 dc24 pm24 cd24 ct24 : Value}
    (a24 : PySem.W.nsIn K mainGlobals "_law_count" = some (some (.ref f24))) (l24 : K.lookup f24 = some ⟨oc24, od24, .func (PySem.W.fnOf "_law_count" "_law_count" (defArgs (top 38)) (defBody (top 38)) (defScope (top 38)) .none kV24 dc24 pm24 an24 cd24 ct24), sl24⟩) (c24 : PySem.W.codeIn K cd24 "_law_count" = true) (k24 : PySem.W.keepIn K (.ref f24) = true)
    {f25 : Addr} {od25 an25 : Option Addr} {sl25 : Array (Option Value)} {oc25 kV25 dc25 pm25 cd25 ct25 : Value}
    (a25 : PySem.W.nsIn K mainGlobals "_law_reckoning" = some (some (.ref f25))) (l25 : K.lookup f25 = some ⟨oc25, od25, .func (PySem.W.fnOf "_law_reckoning" "_law_reckoning" (defArgs (top 39)) (defBody (top 39)) (defScope (top 39)) .none kV25 dc25 pm25 an25 cd25 ct25), sl25⟩) (c25 : PySem.W.codeIn K cd25 "_law_reckoning" = true) (k25 : PySem.W.keepIn K (.ref f25) = true)
    {f26 : Addr} {od26 an26 : Option Addr} {sl26 : Array (Option Value)} {oc26 kV26 dc26 pm26 cd26 ct26 : Value}
    (a26 : PySem.W.nsIn K mainGlobals "law" = some (some (.ref f26))) (l26 : K.lookup f26 = some ⟨oc26, od26, .func (PySem.W.fnOf "law" "law" (defArgs (top 40)) (defBody (top 40)) (defScope (top 40)) .none kV26 dc26 pm26 an26 cd26 ct26), sl26⟩) (c26 : PySem.W.codeIn K cd26 "law" = true) (k26 : PySem.W.keepIn K (.ref f26) = true)
    (z0 : PySem.W.nsIn K mainGlobals "all" = some none)
    (z1 : PySem.W.nsIn K mainGlobals "any" = some none)
    (z2 : PySem.W.nsIn K mainGlobals "bool" = some none)
    (z3 : PySem.W.nsIn K mainGlobals "int" = some none)
    (z4 : PySem.W.nsIn K mainGlobals "isinstance" = some none)
    (z5 : PySem.W.nsIn K mainGlobals "len" = some none)
    (z6 : PySem.W.nsIn K mainGlobals "list" = some none)
    (z7 : PySem.W.nsIn K mainGlobals "max" = some none)
    (z8 : PySem.W.nsIn K mainGlobals "range" = some none)
    (z9 : PySem.W.nsIn K mainGlobals "str" = some none)
    (z10 : PySem.W.nsIn K mainGlobals "sum" = some none)
    (z11 : PySem.W.nsIn K mainGlobals "tuple" = some none)
    (z12 : PySem.W.nsIn K mainGlobals "zip" = some none)
    {t0 : Tok} (gc0 : PySem.W.nsIn K mainGlobals "BEATS" = some (some (.int 500 t0)))
    {t1 : Tok} (gc1 : PySem.W.nsIn K mainGlobals "DEEP" = some (some (.int 3 t1)))
    {t2 : Tok} (gc2 : PySem.W.nsIn K mainGlobals "GREAT" = some (some (.int 9999 t2)))
    {t3 : Tok} (gc3 : PySem.W.nsIn K mainGlobals "MANY" = some (some (.int 9 t3)))
    {t4 : Tok} (gc4 : PySem.W.nsIn K mainGlobals "ROWS" = some (some (.int 12 t4)))
    {t5 : Tok} (gc5 : PySem.W.nsIn K mainGlobals "UNITS" = some (some (.int 6 t5)))
    {e0 : Addr} (ea0 : PySem.W.nsIn K mainGlobals "Endless" = some (some (.ref e0))) (ex0 : PySem.W.excIn K e0 [.type "ValueError", .type "Exception", .type "BaseException", .type "object"] "ValueError.__new__" = true) (ek0 : PySem.W.keepIn K (.ref e0) = true) (eb0 : PySem.W.subIn K (.ref e0) (.type "BaseException") = some true) (et0 : PySem.W.typeIn K (.ref e0) = some (.type "type"))
    {e1 : Addr} (ea1 : PySem.W.nsIn K mainGlobals "NoNumbers" = some (some (.ref e1))) (ex1 : PySem.W.excIn K e1 [.type "ValueError", .type "Exception", .type "BaseException", .type "object"] "ValueError.__new__" = true) (ek1 : PySem.W.keepIn K (.ref e1) = true) (eb1 : PySem.W.subIn K (.ref e1) (.type "BaseException") = some true) (et1 : PySem.W.typeIn K (.ref e1) = some (.type "type"))
    {e2 : Addr} (ea2 : PySem.W.nsIn K mainGlobals "NoReckoning" = some (some (.ref e2))) (ex2 : PySem.W.excIn K e2 [.type "ValueError", .type "Exception", .type "BaseException", .type "object"] "ValueError.__new__" = true) (ek2 : PySem.W.keepIn K (.ref e2) = true) (eb2 : PySem.W.subIn K (.ref e2) (.type "BaseException") = some true) (et2 : PySem.W.typeIn K (.ref e2) = some (.type "type"))
    : ∃ fd : FuncData, (∀ (s : Shared) (v : Value), BindsTo s fd ⟨[v], []⟩ [("script", v)]) ∧ ∀ base : Heap, K.In base → base.Ns mainGlobals mg → FnOk l.prog w K mg base (L2N.CX l.prog w) 100 fa fd ["script"] (spL K 63) := by
  have e := hfa.symm.trans (PySem.W.mg_of X G a26)
  cases e
  have F0 := fun_mk (x := "is_whole") (qual := "is_whole") (st := top 11) l0 c0 k0
  have b0 := F0.binds (ps := ["thing", "low", "most"]) fun _ _ _ _ _ _ us hl => match us, hl with | [_, _, _], _ => rfl
  have F1 := fun_mk (x := "is_unit") (qual := "is_unit") (st := top 12) l1 c1 k1
  have b1 := F1.binds (ps := ["thing"]) fun _ _ _ _ _ _ us hl => match us, hl with | [_], _ => rfl
  have F2 := fun_mk (x := "inner_of") (qual := "inner_of") (st := top 13) l2 c2 k2
  have b2 := F2.binds (ps := ["row"]) fun _ _ _ _ _ _ us hl => match us, hl with | [_], _ => rfl
  have F3 := fun_mk (x := "is_sum_row") (qual := "is_sum_row") (st := top 14) l3 c3 k3
  have b3 := F3.binds (ps := ["thing"]) fun _ _ _ _ _ _ us hl => match us, hl with | [_], _ => rfl
  have F4 := fun_mk (x := "is_row") (qual := "is_row") (st := top 15) l4 c4 k4
  have b4 := F4.binds (ps := ["thing", "deep"]) fun _ _ _ _ _ _ us hl => match us, hl with | [_, _], _ => rfl
  have F5 := fun_mk (x := "is_apart") (qual := "is_apart") (st := top 16) l5 c5 k5
  have b5 := F5.binds (ps := ["row"]) fun _ _ _ _ _ _ us hl => match us, hl with | [_], _ => rfl
  have F6 := fun_mk (x := "are_rows") (qual := "are_rows") (st := top 17) l6 c6 k6
  have b6 := F6.binds (ps := ["thing", "deep"]) fun _ _ _ _ _ _ us hl => match us, hl with | [_, _], _ => rfl
  have F7 := fun_mk (x := "count_of") (qual := "count_of") (st := top 18) l7 c7 k7
  have b7 := F7.binds (ps := ["rows"]) fun _ _ _ _ _ _ us hl => match us, hl with | [_], _ => rfl
  have F8 := fun_mk (x := "own_units") (qual := "own_units") (st := top 19) l8 c8 k8
  have b8 := F8.binds (ps := ["row"]) fun _ _ _ _ _ _ us hl => match us, hl with | [_], _ => rfl
  have F9 := fun_mk (x := "units_in") (qual := "units_in") (st := top 20) l9 c9 k9
  have b9 := F9.binds (ps := ["rows"]) fun _ _ _ _ _ _ us hl => match us, hl with | [_], _ => rfl
  have F10 := fun_mk (x := "need_rows") (qual := "need_rows") (st := top 21) l10 c10 k10
  have b10 := F10.binds (ps := ["thing"]) fun _ _ _ _ _ _ us hl => match us, hl with | [_], _ => rfl
  have F11 := fun_mk (x := "need_numbers") (qual := "need_numbers") (st := top 22) l11 c11 k11
  have b11 := F11.binds (ps := ["thing"]) fun _ _ _ _ _ _ us hl => match us, hl with | [_], _ => rfl
  have F12 := fun_mk (x := "step_on") (qual := "step_on") (st := top 25) l12 c12 k12
  have b12 := F12.binds (ps := ["beat", "many"]) fun _ _ _ _ _ _ us hl => match us, hl with | [_, _], _ => rfl
  have F13 := fun_mk (x := "rows_done") (qual := "rows_done") (st := top 26) l13 c13 k13
  have b13 := F13.binds (ps := ["rows", "numbers", "beat"]) fun _ _ _ _ _ _ us hl => match us, hl with | [_, _, _], _ => rfl
  have F14 := fun_mk (x := "row_done") (qual := "row_done") (st := top 27) l14 c14 k14
  have b14 := F14.binds (ps := ["row", "numbers", "beat"]) fun _ _ _ _ _ _ us hl => match us, hl with | [_, _, _], _ => rfl
  have F15 := fun_mk (x := "reckoned") (qual := "reckoned") (st := top 28) l15 c15 k15
  have b15 := F15.binds (ps := ["rows", "numbers"]) fun _ _ _ _ _ _ us hl => match us, hl with | [_, _], _ => rfl
  have F16 := fun_mk (x := "_law_cell_at") (qual := "_law_cell_at") (st := top 30) l16 c16 k16
  have b16 := F16.binds (ps := ["script", "k"]) fun _ _ _ _ _ _ us hl => match us, hl with | [_, _], _ => rfl
  have F17 := fun_mk (x := "_law_mixed") (qual := "_law_mixed") (st := top 31) l17 c17 k17
  have b17 := F17.binds (ps := ["script", "k", "many"]) fun _ _ _ _ _ _ us hl => match us, hl with | [_, _, _], _ => rfl
  have F18 := fun_mk (x := "_law_draw") (qual := "_law_draw") (st := top 32) l18 c18 k18
  have b18 := F18.binds (ps := ["script", "town", "many"]) fun _ _ _ _ _ _ us hl => match us, hl with | [_, _, _], _ => rfl
  have F19 := fun_mk (x := "_law_pick") (qual := "_law_pick") (st := top 33) l19 c19 k19
  have b19 := F19.binds (ps := ["script", "town", "some"]) fun _ _ _ _ _ _ us hl => match us, hl with | [_, _, _], _ => rfl
  have F20 := fun_mk (x := "_law_some_units") (qual := "_law_some_units") (st := top 34) l20 c20 k20
  have b20 := F20.binds (ps := ["script", "town", "units"]) fun _ _ _ _ _ _ us hl => match us, hl with | [_, _, _], _ => rfl
  have F21 := fun_mk (x := "_law_row") (qual := "_law_row") (st := top 35) l21 c21 k21
  have b21 := F21.binds (ps := ["script", "town", "units", "deep", "kinds"]) fun _ _ _ _ _ _ us hl => match us, hl with | [_, _, _, _, _], _ => rfl
  have F22 := fun_mk (x := "_law_rows") (qual := "_law_rows") (st := top 36) l22 c22 k22
  have b22 := F22.binds (ps := ["script", "town", "units", "deep", "many", "kinds"]) fun _ _ _ _ _ _ us hl => match us, hl with | [_, _, _, _, _, _], _ => rfl
  have F23 := fun_mk (x := "_law_inner") (qual := "_law_inner") (st := top 37) l23 c23 k23
  have b23 := F23.binds (ps := ["row"]) fun _ _ _ _ _ _ us hl => match us, hl with | [_], _ => rfl
  have F24 := fun_mk (x := "_law_count") (qual := "_law_count") (st := top 38) l24 c24 k24
  have b24 := F24.binds (ps := ["rows"]) fun _ _ _ _ _ _ us hl => match us, hl with | [_], _ => rfl
  have F25 := fun_mk (x := "_law_reckoning") (qual := "_law_reckoning") (st := top 39) l25 c25 k25
  have b25 := F25.binds (ps := ["script", "town", "most", "kinds"]) fun _ _ _ _ _ _ us hl => match us, hl with | [_, _, _, _], _ => rfl
  have F26 := fun_mk (x := "law") (qual := "law") (st := top 40) l26 c26 k26
  have b26 := F26.binds (ps := ["script"]) fun _ _ _ _ _ _ us hl => match us, hl with | [_], _ => rfl
  have hF : ∀ d ∈ tab, ∃ f fdv, Fun K d.name d.name d.st f fdv ∧ Binds K fdv d.ps [] ∧ mg d.name = some (.ref f) := by
    unfold tab
    refine List.forall_mem_cons.mpr ⟨⟨_, _, F0, b0, PySem.W.mg_of X G a0⟩, ?_⟩
    refine List.forall_mem_cons.mpr ⟨⟨_, _, F1, b1, PySem.W.mg_of X G a1⟩, ?_⟩
    refine List.forall_mem_cons.mpr ⟨⟨_, _, F2, b2, PySem.W.mg_of X G a2⟩, ?_⟩
    refine List.forall_mem_cons.mpr ⟨⟨_, _, F3, b3, PySem.W.mg_of X G a3⟩, ?_⟩
    refine List.forall_mem_cons.mpr ⟨⟨_, _, F4, b4, PySem.W.mg_of X G a4⟩, ?_⟩
    refine List.forall_mem_cons.mpr ⟨⟨_, _, F5, b5, PySem.W.mg_of X G a5⟩, ?_⟩
    refine List.forall_mem_cons.mpr ⟨⟨_, _, F6, b6, PySem.W.mg_of X G a6⟩, ?_⟩
    refine List.forall_mem_cons.mpr ⟨⟨_, _, F7, b7, PySem.W.mg_of X G a7⟩, ?_⟩
    refine List.forall_mem_cons.mpr ⟨⟨_, _, F8, b8, PySem.W.mg_of X G a8⟩, ?_⟩
    refine List.forall_mem_cons.mpr ⟨⟨_, _, F9, b9, PySem.W.mg_of X G a9⟩, ?_⟩
    refine List.forall_mem_cons.mpr ⟨⟨_, _, F10, b10, PySem.W.mg_of X G a10⟩, ?_⟩
    refine List.forall_mem_cons.mpr ⟨⟨_, _, F11, b11, PySem.W.mg_of X G a11⟩, ?_⟩
    refine List.forall_mem_cons.mpr ⟨⟨_, _, F12, b12, PySem.W.mg_of X G a12⟩, ?_⟩
    refine List.forall_mem_cons.mpr ⟨⟨_, _, F13, b13, PySem.W.mg_of X G a13⟩, ?_⟩
    refine List.forall_mem_cons.mpr ⟨⟨_, _, F14, b14, PySem.W.mg_of X G a14⟩, ?_⟩
    refine List.forall_mem_cons.mpr ⟨⟨_, _, F15, b15, PySem.W.mg_of X G a15⟩, ?_⟩
    refine List.forall_mem_cons.mpr ⟨⟨_, _, F16, b16, PySem.W.mg_of X G a16⟩, ?_⟩
    refine List.forall_mem_cons.mpr ⟨⟨_, _, F17, b17, PySem.W.mg_of X G a17⟩, ?_⟩
    refine List.forall_mem_cons.mpr ⟨⟨_, _, F18, b18, PySem.W.mg_of X G a18⟩, ?_⟩
    refine List.forall_mem_cons.mpr ⟨⟨_, _, F19, b19, PySem.W.mg_of X G a19⟩, ?_⟩
    refine List.forall_mem_cons.mpr ⟨⟨_, _, F20, b20, PySem.W.mg_of X G a20⟩, ?_⟩
    refine List.forall_mem_cons.mpr ⟨⟨_, _, F21, b21, PySem.W.mg_of X G a21⟩, ?_⟩
    refine List.forall_mem_cons.mpr ⟨⟨_, _, F22, b22, PySem.W.mg_of X G a22⟩, ?_⟩
    refine List.forall_mem_cons.mpr ⟨⟨_, _, F23, b23, PySem.W.mg_of X G a23⟩, ?_⟩
    refine List.forall_mem_cons.mpr ⟨⟨_, _, F24, b24, PySem.W.mg_of X G a24⟩, ?_⟩
    refine List.forall_mem_cons.mpr ⟨⟨_, _, F25, b25, PySem.W.mg_of X G a25⟩, ?_⟩
    refine List.forall_mem_cons.mpr ⟨⟨_, _, F26, b26, PySem.W.mg_of X G a26⟩, ?_⟩
    exact fun d h => (List.not_mem_nil h).elim
  have hb : ∀ x ∈ sg.blts, mg x = none := by
    unfold sg
    refine List.forall_mem_cons.mpr ⟨PySem.W.mg_none_of X G z0, ?_⟩
    refine List.forall_mem_cons.mpr ⟨PySem.W.mg_none_of X G z1, ?_⟩
    refine List.forall_mem_cons.mpr ⟨PySem.W.mg_none_of X G z2, ?_⟩
    refine List.forall_mem_cons.mpr ⟨PySem.W.mg_none_of X G z3, ?_⟩
    refine List.forall_mem_cons.mpr ⟨PySem.W.mg_none_of X G z4, ?_⟩
    refine List.forall_mem_cons.mpr ⟨PySem.W.mg_none_of X G z5, ?_⟩
    refine List.forall_mem_cons.mpr ⟨PySem.W.mg_none_of X G z6, ?_⟩
    refine List.forall_mem_cons.mpr ⟨PySem.W.mg_none_of X G z7, ?_⟩
    refine List.forall_mem_cons.mpr ⟨PySem.W.mg_none_of X G z8, ?_⟩
    refine List.forall_mem_cons.mpr ⟨PySem.W.mg_none_of X G z9, ?_⟩
    refine List.forall_mem_cons.mpr ⟨PySem.W.mg_none_of X G z10, ?_⟩
    refine List.forall_mem_cons.mpr ⟨PySem.W.mg_none_of X G z11, ?_⟩
    refine List.forall_mem_cons.mpr ⟨PySem.W.mg_none_of X G z12, ?_⟩
    exact fun d h => (List.not_mem_nil h).elim
  have hx : ∀ x ∈ sg.excs, ExcF K mg x := by
    unfold sg
    refine List.forall_mem_cons.mpr ⟨excF_mk (PySem.W.mg_of X G ea0) ex0 ek0 eb0 et0, ?_⟩
    refine List.forall_mem_cons.mpr ⟨excF_mk (PySem.W.mg_of X G ea1) ex1 ek1 eb1 et1, ?_⟩
    refine List.forall_mem_cons.mpr ⟨excF_mk (PySem.W.mg_of X G ea2) ex2 ek2 eb2 et2, ?_⟩
    exact fun d h => (List.not_mem_nil h).elim
  have hg : ∀ p ∈ gcTab, ∃ i t, p.2 = .int i ∧ mg p.1 = some (.int i t) := by
    unfold gcTab
    refine List.forall_mem_cons.mpr ⟨⟨_, _, rfl, PySem.W.mg_of X G gc0⟩, ?_⟩
    refine List.forall_mem_cons.mpr ⟨⟨_, _, rfl, PySem.W.mg_of X G gc1⟩, ?_⟩
    refine List.forall_mem_cons.mpr ⟨⟨_, _, rfl, PySem.W.mg_of X G gc2⟩, ?_⟩
    refine List.forall_mem_cons.mpr ⟨⟨_, _, rfl, PySem.W.mg_of X G gc3⟩, ?_⟩
    refine List.forall_mem_cons.mpr ⟨⟨_, _, rfl, PySem.W.mg_of X G gc4⟩, ?_⟩
    refine List.forall_mem_cons.mpr ⟨⟨_, _, rfl, PySem.W.mg_of X G gc5⟩, ?_⟩
    exact fun d h => (List.not_mem_nil h).elim
  refine ⟨_, fun s v => .of_eq ?_, fun base _ _ => FnOk.imp (all_fn (Pr := prg) (S := sg) (tab := tab) tab_has tab_fn (fun d hd => List.all_eq_true.mp tab_ok d hd) hF hb hx (gc_of hg) 100 df_law (by unfold tab; simp) fa _ F26) (spL_imp math)⟩
  rfl
end Py
open PySem PySem.W PyProof.Rows
set_option maxRecDepth 100000 in
set_option maxHeartbeats 0 in
theorem PySem.Challenge.cw_plugtrays_k04_whole_linear_holds : PySem.Challenge.rw_plugtrays_k04_whole_linear.Holds := by
  w_on; o_law; k_head; (case hw => w_witness2)
  k_fill
  refine Py.walk (l := PySem.Challenge.rw_plugtrays_k04_whole_linear) (n := 63) (k := 100) rfl (by decide) rfl ⟨rfl, by decide, by decide⟩ (fun w h Y => PySem.W.kIn_of Y) ?F
  case F =>
    intro w mg fa h KX G hmg
    refine' Py.all_mk KX G hmg ?a0 ?l0 ?c0 ?k0 ?a1 ?l1 ?c1 ?k1 ?a2 ?l2 ?c2 ?k2 ?a3 ?l3 ?c3 ?k3 ?a4 ?l4 ?c4 ?k4 ?a5 ?l5 ?c5 ?k5 ?a6 ?l6 ?c6 ?k6 ?a7 ?l7 ?c7 ?k7 ?a8 ?l8 ?c8 ?k8 ?a9 ?l9 ?c9 ?k9 ?a10 ?l10 ?c10 ?k10 ?a11 ?l11 ?c11 ?k11 ?a12 ?l12 ?c12 ?k12 ?a13 ?l13 ?c13 ?k13 ?a14 ?l14 ?c14 ?k14 ?a15 ?l15 ?c15 ?k15 ?a16 ?l16 ?c16 ?k16 ?a17 ?l17 ?c17 ?k17 ?a18 ?l18 ?c18 ?k18 ?a19 ?l19 ?c19 ?k19 ?a20 ?l20 ?c20 ?k20 ?a21 ?l21 ?c21 ?k21 ?a22 ?l22 ?c22 ?k22 ?a23 ?l23 ?c23 ?k23 ?a24 ?l24 ?c24 ?k24 ?a25 ?l25 ?c25 ?k25 ?a26 ?l26 ?c26 ?k26 ?z0 ?z1 ?z2 ?z3 ?z4 ?z5 ?z6 ?z7 ?z8 ?z9 ?z10 ?z11 ?z12 ?gc0 ?gc1 ?gc2 ?gc3 ?gc4 ?gc5 ?ea0 ?ex0 ?ek0 ?eb0 ?et0 ?ea1 ?ex1 ?ek1 ?eb1 ?et1 ?ea2 ?ex2 ?ek2 ?eb2 ?et2
    (case a0 => k_is)
    (case l0 => k_is)
    (case c0 => k_is)
    (case k0 => k_is)
    (case a1 => k_is)
    (case l1 => k_is)
    (case c1 => k_is)
    (case k1 => k_is)
    (case a2 => k_is)
    (case l2 => k_is)
    (case c2 => k_is)
    (case k2 => k_is)
    (case a3 => k_is)
    (case l3 => k_is)
    (case c3 => k_is)
    (case k3 => k_is)
    (case a4 => k_is)
    (case l4 => k_is)
    (case c4 => k_is)
    (case k4 => k_is)
    (case a5 => k_is)
    (case l5 => k_is)
    (case c5 => k_is)
    (case k5 => k_is)
    (case a6 => k_is)
    (case l6 => k_is)
    (case c6 => k_is)
    (case k6 => k_is)
    (case a7 => k_is)
    (case l7 => k_is)
    (case c7 => k_is)
    (case k7 => k_is)
    (case a8 => k_is)
    (case l8 => k_is)
    (case c8 => k_is)
    (case k8 => k_is)
    (case a9 => k_is)
    (case l9 => k_is)
    (case c9 => k_is)
    (case k9 => k_is)
    (case a10 => k_is)
    (case l10 => k_is)
    (case c10 => k_is)
    (case k10 => k_is)
    (case a11 => k_is)
    (case l11 => k_is)
    (case c11 => k_is)
    (case k11 => k_is)
    (case a12 => k_is)
    (case l12 => k_is)
    (case c12 => k_is)
    (case k12 => k_is)
    (case a13 => k_is)
    (case l13 => k_is)
    (case c13 => k_is)
    (case k13 => k_is)
    (case a14 => k_is)
    (case l14 => k_is)
    (case c14 => k_is)
    (case k14 => k_is)
    (case a15 => k_is)
    (case l15 => k_is)
    (case c15 => k_is)
    (case k15 => k_is)
    (case a16 => k_is)
    (case l16 => k_is)
    (case c16 => k_is)
    (case k16 => k_is)
    (case a17 => k_is)
    (case l17 => k_is)
    (case c17 => k_is)
    (case k17 => k_is)
    (case a18 => k_is)
    (case l18 => k_is)
    (case c18 => k_is)
    (case k18 => k_is)
    (case a19 => k_is)
    (case l19 => k_is)
    (case c19 => k_is)
    (case k19 => k_is)
    (case a20 => k_is)
    (case l20 => k_is)
    (case c20 => k_is)
    (case k20 => k_is)
    (case a21 => k_is)
    (case l21 => k_is)
    (case c21 => k_is)
    (case k21 => k_is)
    (case a22 => k_is)
    (case l22 => k_is)
    (case c22 => k_is)
    (case k22 => k_is)
    (case a23 => k_is)
    (case l23 => k_is)
    (case c23 => k_is)
    (case k23 => k_is)
    (case a24 => k_is)
    (case l24 => k_is)
    (case c24 => k_is)
    (case k24 => k_is)
    (case a25 => k_is)
    (case l25 => k_is)
    (case c25 => k_is)
    (case k25 => k_is)
    (case a26 => k_is)
    (case l26 => k_is)
    (case c26 => k_is)
    (case k26 => k_is)
    (case z0 => k_is)
    (case z1 => k_is)
    (case z2 => k_is)
    (case z3 => k_is)
    (case z4 => k_is)
    (case z5 => k_is)
    (case z6 => k_is)
    (case z7 => k_is)
    (case z8 => k_is)
    (case z9 => k_is)
    (case z10 => k_is)
    (case z11 => k_is)
    (case z12 => k_is)
    (case gc0 => k_is)
    (case gc1 => k_is)
    (case gc2 => k_is)
    (case gc3 => k_is)
    (case gc4 => k_is)
    (case gc5 => k_is)
    (case ea0 => k_is)
    (case ex0 => k_exc)
    (case ek0 => k_is)
    (case eb0 => k_is)
    (case et0 => k_is)
    (case ea1 => k_is)
    (case ex1 => k_exc)
    (case ek1 => k_is)
    (case eb1 => k_is)
    (case et1 => k_is)
    (case ea2 => k_is)
    (case ex2 => k_exc)
    (case ek2 => k_is)
    (case eb2 => k_is)
    (case et2 => k_is)
#print axioms PySem.Challenge.cw_plugtrays_k04_whole_linear_holds
