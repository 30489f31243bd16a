import PyProof.Rows.All
import Wide.All
import OpenK.AllK
import Wide.FinOn
import HandS.ForMost
import HandS.Flow
import HandS.TupAny
import HandS.TupMul
import HandS.Lambda
import HandS.HeadHook4
import HandS.Deep
import HandS.Strs
import HandS.Zip
import HandS.Star
import HandS.IsInst
import KE.GoesMore
import HandS.Codes
import HandS.Defaults
import HandS.SortInts
import KE.KSortTup
import KE.KSortTupAny
import HandS.Head2
import HandS.HeadEnd
import HandS.Style
import HandS.Conv
import HandS.SetFor
import KE.KDictPairs
import HandS.TryOnly
import PyProof.EnumMake
import PyProof.Draws
import HandS.SortOrd
import HandS.FStr
import HandS.RaiseMore
import HandS.Text
import HandS.DictComp
import HandS.ExcInit
import HandS.ExcSuper
import KE.KExcSuper
import KE.KExcIs
import HandS.ExcIs
import HandS.ExcField
import HandS.HotCalls
import HandS.EndTab
import HandS.GenYield
import HandS.GenList
import KE.KxField
import PyProof.StrOps2
import KE.KeyNested
import HandS.TupSets
import KE.KNest
import HandS.TupLe
import KE.SortKeyHeap
import HandS.Property
import HandS.ClsMeth
import OpenK.KMeth
import OpenK.KOps
import HandS.SlotsOwn
import HandS.MakeKw
import KE.KStateDown
import Wide.Once
import Lean
import PySem.Challenge.RW_samestamp_k50_moduli_told
section
set_option Elab.async false
set_option linter.all false
set_option maxRecDepth 100000
set_option autoImplicit false
set_option maxHeartbeats 2000000
/-! Tuples known to their object: so it is known that they bear no dict of their own. -/
namespace FL
open PySem PySem.Spec PyProof.Rows L2
def tupO (us : List Value) : Obj := { cls := .type "tuple", data := .seq us.toArray }
/-- a new tuple -/
def rNewT (xs : List V) (H : Hp) (Q : VK) : Prop := ∀ p us, H p = none → Q (.ref p) (upd H p (.frz (tupO us) (.tup xs)))
section
variable {X : Cx} {pins : List (Addr × Obj)} {s : Shared} {σ : L2.St} {H : Hp} {Q : VK}
theorem newT {us : List Value} {xs : List V} (I : Inv X pins σ H s) (r : Vals xs us) (z : xs.length ≤ sizeLine) (q : rNewT xs H Q) : EP X pins σ Q (.ref s.heap.objs.size) { s with heap := s.heap.push (tupO us) } := by
  have hf : H s.heap.objs.size = none := I.hok.fresh (Nat.le_refl _)
  refine ⟨.ref s.heap.objs.size, _, I.laid (t' := s.toks) (o := .frz (tupO us) (.tup xs)) (fun b u e => Heap.get?_push_of_some _ e) (Nat.le_refl _) ?_, rfl, q _ us hf⟩
  exact ⟨Heap.get?_push_size _ rfl, z, us, r, ⟨_, Heap.get?_push_size _ rfl, rfl, _, rfl⟩⟩
def tTupF (t : TA) : TE := fun s H Q => t s H fun xs H1 => xs.length ≤ sizeLine ∧ rNewT xs H1 Q
theorem pe_tupF {es : List Expr} {t : TA} {x1} {pos : Pos} (h : PA X es t) : PE X (.Tuple es x1 pos) (tTupF t) := by
  refine ⟨fun pins s σ H Q I hq => ?_⟩
  refine wpAny_Tuple_spliced (thn (h.run pos pins s σ H _ I hq) fun us s1 ⟨xs, H1, I1, r, z, q⟩ => ⟨by rw [← r.length]; exact z, ?_⟩)
  exact newT I1 r z q
/-- t + u -/
def rCatF (K : PySem.W.Frag) : R2 := fun x y H Q => ∃ a b xs ys, x = .ref a ∧ y = .ref b ∧ SqT K H a xs ∧ SqT K H b ys ∧ xs.length + ys.length ≤ sizeLine ∧
  (xs = [] → Q (.ref b) H) ∧ (xs ≠ [] → ys = [] → Q (.ref a) H) ∧ (xs ≠ [] → ys ≠ [] → rNewT (xs ++ ys) H Q)
theorem op_catF : OpR X (binaryOp .Add) (rCatF X.K) := by
  intro pins s σ H x y v u Q I rx ry ⟨a, b, xs, ys, ex, ey, ha, hb, hz, q0, q1, q2⟩
  subst ex ey
  cases rx
  cases ry
  obtain ⟨its, r1, p1, _⟩ := I.tuple ha
  obtain ⟨its2, r2, p2, _⟩ := I.tuple hb
  by_cases hx : xs = []
  · subst hx
    cases r1
    exact cat_tup0 p1 p2 ⟨.ref b, H, I, rfl, q0 rfl⟩
  · refine HT.cat_tup p1 p2 (fun z => hx (r1.nil_iff.mp z)) (fun z => ⟨.ref a, H, I, rfl, q1 hx (r2.nil_iff.mp z)⟩) (fun z => ?_) (by rw [← r1.length, ← r2.length]; exact hz)
    exact newT I (r1.append r2) (by rw [List.length_append]; exact hz) (q2 hx fun w => z (r2.nil_iff.mpr w))
/-- t[a:b] -/
def rSlF (K : PySem.W.Frag) : V → Option Int → Option Int → Hp → VK → Prop := fun x lo hi H Q => ∃ a xs, x = .ref a ∧ SqT K H a xs ∧
  (cutV xs lo hi = xs → Q (.ref a) H) ∧ rNewT (cutV xs lo hi) H Q
theorem sl_tupF : SlR X (rSlF X.K) := by
  intro pins s σ H x v vl vu lo hi sl Q I rx hs pl pu ⟨a, xs, ex, hx, q1, q2⟩
  subst ex
  cases rx
  obtain ⟨its, r, ht, hz⟩ := I.tuple hx
  have hlen : its.toArray.size = xs.length := by rw [List.size_toArray]; exact r.length.symm
  refine ⟨"tuple", _, PyProof.Rows.slot_tuple_getitem.lookup, ht.typeIs, ?_⟩
  by_cases hw : HT.sIx xs.length 0 lo = 0 ∧ HT.sIx xs.length xs.length hi = xs.length
  · refine getItem_tuple_whole ht hs pl pu (by rw [hlen]; exact hw) ⟨.ref a, H, I, rfl, q1 ?_⟩
    unfold cutV
    rw [hw.1, hw.2, List.drop_zero, Nat.sub_zero, List.take_length]
  · refine HT.getItem_tuple_cut ht hs pl pu (by rw [hlen]; exact hw) ?_ (by rw [hlen]; exact hz)
    rw [hlen]
    exact newT I ((r.drop (HT.sIx xs.length 0 lo)).take (HT.sIx xs.length xs.length hi - HT.sIx xs.length 0 lo)) (Nat.le_trans (cutV_length xs lo hi) hz) q2
/-- tuple(x) -/
def rTupleF (K : PySem.W.Frag) : List V → Hp → VK → Prop := fun xs H Q => ∃ p ys, xs = [.ref p] ∧ ((SqL K H p ys ∧ rNewT ys H Q) ∨ (SqT K H p ys ∧ Q (.ref p) H))
theorem call_tupleF : CallR X (.type "tuple") (rTupleF X.K) := by
  intro pins s σ H xs us Q I r ⟨p, ys, e, h⟩
  subst e
  obtain ⟨u, rfl, rx⟩ := vals1 r
  cases rx
  rcases h with ⟨hq, q⟩ | ⟨hq, q⟩
  · obtain ⟨its, r', pl, hz⟩ := I.list hq
    have hlen := r'.length
    refine call_tuple_list pl.isList (fun h' kp => ?_) (by simp only [List.size_toArray] <;> omega)
    have I1 : Inv X pins σ H { s with heap := h' } := I.kept (t' := s.toks) kp
    exact newT I1 r' hz q
  · obtain ⟨its, r', pl, hz⟩ := I.tuple hq
    exact call_tuple_same pl ⟨.ref p, H, I, rfl, q⟩
end
/-! ## tuple * int -/
theorem tuple_mul_one (l : Addr) (items : Array Value) (n : Nat) (dd : Option Addr) (sl : Array (Option Value)) (u : Tok) :
    Meets (Builtin.«tuple.__mul__» ⟨[.ref l, .int 1 u], []⟩) (fun _ R s => s.heap.get? l = some { cls := .type "tuple", dict := dd, data := .seq items n, slots := sl } ∧ R (.ok (.ret (Value.ref l))) s) :=
  .of_wp fun prog w A R s h => by
    obtain ⟨hp, g, d, tk, os⟩ := s
    obtain ⟨hl, h⟩ := h
    have f1 := AutoSeq1.idx_int
    have c1 : (items.isEmpty || (1 : Int) == 1) = true := by simp
    wp_walk using wpAny_loadPart' hl
    repeat (first
      | (refine wpAny_ite_false (decide_eq_false (by decide)) ?_; wp_walk using wpAny_loadPart' hl)
      | (refine wpAny_ite_true (decide_eq_true c1) ?_; wp_walk using wpAny_loadPart' hl))
    exact ⟨_, rfl, h⟩
theorem tuple_mul_none (l : Addr) (items : Array Value) (n : Nat) (dd : Option Addr) (sl : Array (Option Value)) (x : Int) (u : Tok) (c0 : (decide (x < -(2 ^ 63)) || decide (x ≥ 2 ^ 63)) = false) (c1 : (items.isEmpty || x == 1) = false) (c2 : (decide (x ≤ 0) || items.isEmpty) = true) :
    Meets (Builtin.«tuple.__mul__» ⟨[.ref l, .int x u], []⟩) (fun _ R s => s.heap.get? l = some { cls := .type "tuple", dict := dd, data := .seq items n, slots := sl } ∧
      R (.ok (.ret (Value.ref s.heap.objs.size))) { s with heap := s.heap.push { cls := Value.type "tuple", data := Data.seq #[] }, toks := s.toks }) :=
  .of_wp fun prog w A R s h => by
    obtain ⟨hp, g, d, tk, os⟩ := s
    obtain ⟨hl, h⟩ := h
    have f1 := AutoSeq1.idx_int
    wp_walk using wpAny_loadPart' hl
    repeat (first
      | (refine wpAny_ite_false (decide_eq_false (by rw [c0]; exact Bool.false_ne_true)) ?_; wp_walk using wpAny_loadPart' hl)
      | (refine wpAny_ite_false (decide_eq_false (by rw [c1]; exact Bool.false_ne_true)) ?_; wp_walk using wpAny_loadPart' hl)
      | (refine wpAny_ite_true (decide_eq_true (by rw [c2])) ?_; wp_walk using wpAny_loadPart' hl))
    exact ⟨_, rfl, h⟩
section
variable {X : Cx}
def rRepF (K : PySem.W.Frag) : R2 := fun x y H Q => ∃ l k xs, x = .ref l ∧ y = .int k ∧ SqT K H l xs ∧ xs ≠ [] ∧ -1000 ≤ k ∧ k ≤ 1000 ∧ xs.length ≤ 1000 ∧ (k = 1 → Q (.ref l) H) ∧ rNewT (List.replicate k.toNat xs).flatten H Q
theorem op_repF : OpR X (binaryOp .Mult) (rRepF X.K) := by
  intro pins s σ H x y v u Q I rx ry ⟨l, k, xs, ex, ey, hT, hne, h1, h2, hz, q1, q2⟩
  subst ex ey
  cases rx
  obtain ⟨t, rfl⟩ := ry
  obtain ⟨its, r, ⟨⟨cls, dd, data, sl⟩, ho, hc, n, hd⟩, hs⟩ := I.tuple hT
  simp only at hc hd
  subst hc hd
  have hle : its.length = xs.length := r.length.symm
  have hi : its.toArray.isEmpty = false := by
    cases its with
    | nil => exact absurd (List.eq_nil_of_length_eq_zero (by simpa using r.length)) hne
    | cons a b => rfl
  have hsz0 : its.toArray.size = xs.length := by rw [List.size_toArray, hle]
  have a0 : k.toNat * xs.length ≤ 1000 * 1000 := Nat.mul_le_mul (by omega) hz
  have flen : (List.replicate k.toNat its).flatten.length ≤ sizeLine := by
    rw [PyProof.Rows.lm_len_rep_flat, hle, sizeLine_eq]
    omega
  have flen' : (List.replicate k.toNat xs).flatten.length ≤ sizeLine := by
    rw [PyProof.Rows.lm_len_rep_flat, sizeLine_eq]
    omega
  have c0 : (decide (k < -(2 ^ 63)) || decide (k ≥ 2 ^ 63)) = false := by
    rw [decide_eq_false (by omega), decide_eq_false (by omega)] <;> rfl
  refine wpAny_binaryOp_repeat_ref (T := "tuple") (U := "int") (by decide) ⟨_, ho, rfl⟩ (fun s' => typeIs_int s' k t) noFill_tuple_mul F.fills_int_mul F.slot_int_rmul repeat_tuple F.slot_int_index.lookup
    (call_meets F.slot_int_rmul (typeIs_int s k t) F.entry_int_rmul (F.args_int_rmul_2 _ _) (int_rmul_tuple k t l its.toArray n dd sl) ⟨ho, rfl, ⟨_, ho, rfl⟩, ?_⟩)
  by_cases hk1 : k = 1
  · subst hk1
    exact call_meets F.slot_tuple_mul ⟨_, ho, rfl⟩ F.entry_tuple_mul (F.args_tuple_mul_2 _ _) (tuple_mul_one l its.toArray n dd sl t) ⟨ho, .ref l, H, I, rfl, q1 rfl⟩
  · have c1 : (its.toArray.isEmpty || k == 1) = false := by
      rw [hi, Bool.false_or]
      exact beq_eq_false_iff_ne.mpr hk1
    by_cases hk0 : k ≤ 0
    · have c2 : (decide (k ≤ 0) || its.toArray.isEmpty) = true := by
        rw [decide_eq_true hk0, Bool.true_or]
      refine call_meets F.slot_tuple_mul ⟨_, ho, rfl⟩ F.entry_tuple_mul (F.args_tuple_mul_2 _ _) (tuple_mul_none l its.toArray n dd sl k t c0 c1 c2) ⟨ho, ?_⟩
      have e0 : k.toNat = 0 := by omega
      rw [e0] at q2
      exact newT I .nil (Nat.zero_le _) q2
    · have c2 : (decide (k ≤ 0) || its.toArray.isEmpty) = false := by
        rw [hi, Bool.or_false]
        exact decide_eq_false hk0
      have hm : ((its.toArray.size : Nat) : Int) * k ≤ 1000000 := by
        rw [hsz0]
        have a1 : ((xs.length : Nat) : Int) * k ≤ 1000 * k := Int.mul_le_mul_of_nonneg_right (by omega) (by omega)
        omega
      have c4 : Builtin.Tuple.tupleTooMany (((its.toArray.size : Nat) : Int) * k) = false := by
        unfold Builtin.Tuple.tupleTooMany
        rw [sizeLine_eq]
        exact decide_eq_false (by omega)
      refine call_meets F.slot_tuple_mul ⟨_, ho, rfl⟩ F.entry_tuple_mul (F.args_tuple_mul_2 _ _) (tuple_mulW l its.toArray n dd sl k t c0 c1 c2 (by omega) c4 (by rw [size_rep, List.size_toArray]; exact flen)) ⟨ho, ?_⟩
      rw [size_rep]
      exact newT I (r.rep k.toNat) flen' q2
end
end FL
end
section
set_option Elab.async false
set_option linter.all false
set_option maxRecDepth 100000
set_option autoImplicit false
namespace FL
open PySem PySem.Spec PyProof.Rows L2
/-! ## data, store, outcome -/
/-- a function that was made: itself, its code object, its name, what it holds -/
structure FnV where
  a : Addr
  c : Addr
  q : Str
  vs : List V
  deriving DecidableEq
inductive D where
  | non
  | bl (b : Bool)
  | int (i : Int)
  | str (x : Str)
  | lst (xs : List D)
  | tup (xs : List D)
  | dct (kvs : List (Key × D))
  | ref (n : Nat)
  | fn (f : FnV) (ds : List D)
  | obj (C : Str) (ks : List Str) (ds : List D)
instance : Inhabited D := ⟨.non⟩
inductive Ob where
  | lst (xs : List D)
  | dct (kvs : List (Key × D))
  | ins (C : Str) (fs : List (Str × D))
  | dead
  | tab (q : Str)
  | err (C : Str) (fs : List (Str × D))
abbrev Sto := List Ob
structure Exn where
  cls : Str
  ks : List Str
  ds : List D
inductive R (α : Type) where
  | ok (a : α) (S : Sto)
  | ex (x : Exn) (S : Sto)
  | no
abbrev M (α : Type) := Sto → R α
abbrev Env := List (Option D)
inductive Fl where
  | nx (r : Env)
  | rt (d : D)
  | bk (r : Env)
  | ct (r : Env)
def ret {α : Type} (a : α) : M α := fun S => .ok a S
def bnd {α β : Type} (m : M α) (k : α → M β) : M β := fun S => match m S with
  | .ok a S' => k a S'
  | .ex x S' => .ex x S'
  | .no => .no
/-- a partial plain value -/
def opt {α : Type} : Option α → M α
  | some a => fun S => .ok a S
  | none => fun _ => .no
def R.post {α : Type} (r : R α) (Q : α → Sto → Prop) (E : Exn → Sto → Prop) : Prop := match r with
  | .ok a S => Q a S
  | .ex x S => E x S
  | .no => False
theorem post_bnd {α β : Type} {m : M α} {k : α → M β} {S : Sto} {Q : β → Sto → Prop} {E : Exn → Sto → Prop} :
    (bnd m k S).post Q E = (m S).post (fun a S' => (k a S').post Q E) E := by
  unfold bnd
  cases m S <;> rfl
theorem post_opt {α : Type} {o : Option α} {S : Sto} {Q : α → Sto → Prop} {E : Exn → Sto → Prop} : (opt o S).post Q E = ∃ a, o = some a ∧ Q a S := by
  cases o with
  | none => simp [opt, R.post]
  | some a => simp [opt, R.post]
theorem R.post.mono {α : Type} {r : R α} {Q Q' : α → Sto → Prop} {E E' : Exn → Sto → Prop} (h : r.post Q E) (hQ : ∀ a S, Q a S → Q' a S) (hE : ∀ x S, E x S → E' x S) : r.post Q' E' := by
  cases r with
  | ok a S => exact hQ _ _ h
  | ex x S => exact hE _ _ h
  | no => exact h
/-! ## what stands for what -/
/-- a tuple that stands, without a dict of its own -/
def TupAt (K : PySem.W.Frag) (G : Hp) (a : Addr) (vs : List V) : Prop := (∃ us, G a = some (.frz (tupO us) (.tup vs))) ∨
  ∃ (o : Obj) (its : Array Value) (n : Nat), K.lookup a = some o ∧ o.cls = .type "tuple" ∧ o.dict = none ∧ o.data = .seq its n ∧ its.size ≤ sizeLine ∧ Vals vs its.toList
theorem TupAt.sq {K : PySem.W.Frag} {G : Hp} {a : Addr} {vs : List V} (h : TupAt K G a vs) : SqT K G a vs := by
  rcases h with ⟨us, h⟩ | ⟨o, its, n, h1, h2, _, h3, h4, h5⟩
  · exact .inl (.inr ⟨_, h⟩)
  · exact .inr ⟨o, its, n, h1, h2, h3, h4, h5⟩
theorem TupAt.same {K : PySem.W.Frag} {G G' : Hp} {a : Addr} {vs : List V} (e : Same G G') (h : TupAt K G a vs) : TupAt K G' a vs := by
  rcases h with ⟨us, h⟩ | h
  · exact .inl ⟨us, e _ _ h⟩
  · exact .inr h
/-- a list that stands -/
def LAt (K : PySem.W.Frag) (G : Hp) (a : Addr) (vs : List V) : Prop := Rd G a (.lst vs) ∨
  ∃ (its : Array Value) (n : Nat), K.lookup a = some { cls := .type "list", data := .seq its n } ∧ its.size ≤ sizeLine ∧ Vals vs its.toList
theorem LAt.sq {K : PySem.W.Frag} {G : Hp} {a : Addr} {vs : List V} (h : LAt K G a vs) : SqL K G a vs := by
  rcases h with h | ⟨its, n, h1, h2, h3⟩
  · exact .inl h
  · exact .inr ⟨_, its, n, h1, rfl, rfl, rfl, h2, h3⟩
mutual
inductive Dn (K : PySem.W.Frag) (G : Hp) (A : List Addr) : V → D → Prop
  | non : Dn K G A .non .non
  | bl (b : Bool) : Dn K G A (.bl b) (.bl b)
  | int (i : Int) : Dn K G A (.int i) (.int i)
  | str (x : Str) : PyData.strOk x = true → Dn K G A (.str x) (.str x)
  | lst {a : Addr} {vs : List V} {ds : List D} : LAt K G a vs → DnAll K G A vs ds → Dn K G A (.ref a) (.lst ds)
  | tup {a : Addr} {vs : List V} {ds : List D} : TupAt K G a vs → DnAll K G A vs ds → Dn K G A (.ref a) (.tup ds)
  | dct {a : Addr} {kvs : List (Key × V)} {kds : List (Key × D)} : G a = some (.dK kvs) → DnKV K G A kvs kds → Dn K G A (.ref a) (.dct kds)
  | ref {n : Nat} {a : Addr} : A[n]? = some a → Dn K G A (.ref a) (.ref n)
  | fn {f : FnV} {ds : List D} : (f.c = f.a ∨ G f.c = some (LamX.CodeO f.c f.q)) → DnAll K G A f.vs ds → Dn K G A (.ref f.a) (.fn f ds)
  | obj {a dx : Addr} {C : Str} {ks : List Str} {vs : List V} {ds : List D} : G a = some (.ins (He.ga K C) dx (ks.zip vs)) → ks.length = vs.length → DnAll K G A vs ds → Dn K G A (.ref a) (.obj C ks ds)
inductive DnAll (K : PySem.W.Frag) (G : Hp) (A : List Addr) : List V → List D → Prop
  | nil : DnAll K G A [] []
  | cons {v : V} {vs : List V} {d : D} {ds : List D} : Dn K G A v d → DnAll K G A vs ds → DnAll K G A (v :: vs) (d :: ds)
inductive DnKV (K : PySem.W.Frag) (G : Hp) (A : List Addr) : List (Key × V) → List (Key × D) → Prop
  | nil : DnKV K G A [] []
  | cons {k : Key} {v : V} {vs : List (Key × V)} {d : D} {ds : List (Key × D)} : Dn K G A v d → DnKV K G A vs ds → DnKV K G A ((k, v) :: vs) ((k, d) :: ds)
end
def Pre (A A' : List Addr) : Prop := ∀ (n : Nat) (a : Addr), A[n]? = some a → A'[n]? = some a
theorem Pre.refl (A : List Addr) : Pre A A := fun _ _ h => h
theorem Pre.trans {A B C : List Addr} (h : Pre A B) (k : Pre B C) : Pre A C := fun n a e => k n a (h n a e)
theorem Pre.app (A B : List Addr) : Pre A (A ++ B) := fun n a e => by
  have hn : n < A.length := (List.getElem?_eq_some_iff.mp e).1
  rw [List.getElem?_append_left hn]
  exact e
theorem rd_same {H H' : Hp} {a : Addr} {u : HO} (e : Same H H') (h : Rd H a u) : Rd H' a u := by
  rcases h with h | ⟨o, h⟩
  · exact .inl (e _ _ h)
  · exact .inr ⟨o, e _ _ h⟩
theorem sql_same {K : PySem.W.Frag} {H H' : Hp} {a : Addr} {xs : List V} (e : Same H H') (h : LAt K H a xs) : LAt K H' a xs := by
  rcases h with h | h
  · exact .inl (rd_same e h)
  · exact .inr h
section
variable {K : PySem.W.Frag} {G G' : Hp} {A A' : List Addr}
mutual
theorem Dn.mono (e : Same G G') (p : Pre A A') : ∀ (d : D) (v : V), Dn K G A v d → Dn K G' A' v d
  | .non, _, h => by cases h; exact .non
  | .bl b, _, h => by cases h; exact .bl b
  | .int i, _, h => by cases h; exact .int i
  | .str x, _, h => by cases h with | str _ o => exact .str x o
  | .lst ds, _, h => by cases h with | lst s t => exact .lst (sql_same e s) (DnAll.mono e p ds _ t)
  | .tup ds, _, h => by cases h with | tup s t => exact .tup (s.same e) (DnAll.mono e p ds _ t)
  | .dct kds, _, h => by cases h with | dct s t => exact .dct (e _ _ s) (DnKV.mono e p kds _ t)
  | .ref n, _, h => by cases h with | ref q => exact .ref (p _ _ q)
  | .fn f ds, _, h => by cases h with | fn q t => exact .fn (q.imp id (e _ _)) (DnAll.mono e p ds _ t)
  | .obj C ks ds, _, h => by cases h with | obj q l t => exact .obj (e _ _ q) l (DnAll.mono e p ds _ t)
theorem DnAll.mono (e : Same G G') (p : Pre A A') : ∀ (ds : List D) (vs : List V), DnAll K G A vs ds → DnAll K G' A' vs ds
  | [], _, h => by cases h; exact .nil
  | d :: ds, _, h => by cases h with | cons a b => exact .cons (Dn.mono e p d _ a) (DnAll.mono e p ds _ b)
theorem DnKV.mono (e : Same G G') (p : Pre A A') : ∀ (ds : List (Key × D)) (vs : List (Key × V)), DnKV K G A vs ds → DnKV K G' A' vs ds
  | [], _, h => by cases h; exact .nil
  | (k, d) :: ds, _, h => by cases h with | cons a b => exact .cons (Dn.mono e p d _ a) (DnKV.mono e p ds _ b)
end
theorem DnAll.length {vs : List V} : ∀ {ds : List D}, DnAll K G A vs ds → vs.length = ds.length := by
  induction vs with
  | nil => intro ds h; cases h; rfl
  | cons v vs ih => intro ds h; cases h with | cons a b => simp [ih b]
theorem DnAll.get : ∀ {vs : List V} {ds : List D} {i : Nat} {d : D}, DnAll K G A vs ds → ds[i]? = some d → ∃ v, vs[i]? = some v ∧ Dn K G A v d
  | _, _, i, d, .nil, e => by simp at e
  | _, _, 0, d, .cons (v := v) a b, e => by simp at e; subst e; exact ⟨v, rfl, a⟩
  | _, _, i + 1, d, .cons a b, e => by
    obtain ⟨v, e1, r⟩ := DnAll.get (i := i) b (by simpa using e)
    exact ⟨v, by simpa using e1, r⟩
theorem DnAll.append : ∀ {vs ws : List V} {ds es : List D}, DnAll K G A vs ds → DnAll K G A ws es → DnAll K G A (vs ++ ws) (ds ++ es)
  | _, _, _, _, .nil, h => h
  | _, _, _, _, .cons a b, h => .cons a (DnAll.append b h)
theorem DnAll.take : ∀ {vs : List V} {ds : List D} (n : Nat), DnAll K G A vs ds → DnAll K G A (vs.take n) (ds.take n)
  | _, _, 0, _ => .nil
  | _, _, _ + 1, .nil => .nil
  | _, _, n + 1, .cons a b => .cons a (DnAll.take n b)
theorem DnAll.drop : ∀ {vs : List V} {ds : List D} (n : Nat), DnAll K G A vs ds → DnAll K G A (vs.drop n) (ds.drop n)
  | _, _, 0, h => h
  | _, _, _ + 1, .nil => .nil
  | _, _, n + 1, .cons a b => DnAll.drop n b
theorem DnAll.set {v : V} {d : D} (r : Dn K G A v d) : ∀ {vs : List V} {ds : List D} (i : Nat), DnAll K G A vs ds → DnAll K G A (vs.set i v) (ds.set i d)
  | _, _, _, .nil => .nil
  | _, _, 0, .cons _ b => .cons r b
  | _, _, i + 1, .cons a b => .cons a (DnAll.set r i b)
end
/-! ## the state -/
/-- an error's object, known -/
def ErrO (a : Addr) (oe : Obj) : HO := .frz oe (.ext fun h => h.get? a = some oe)
def ObR (K : PySem.W.Frag) (G : Hp) (A : List Addr) (H : Hp) (a : Addr) : Ob → Prop
  | .lst ds => ∃ vs, H a = some (.lst vs) ∧ DnAll K G A vs ds
  | .dct kds => ∃ kvs, H a = some (.dK kvs) ∧ DnKV K G A kvs kds
  | .ins C fs => ∃ (dx : Addr) (vs : List V), H a = some (.ins (He.ga K C) dx ((fs.map (·.1)).zip vs)) ∧ DnAll K G A vs (fs.map (·.2))
  | .dead => True
  | .tab q => a = (He.cT K (q, none)).2 ∧ ∃ ps : Array Value, H a = some (.tbl ps) ∧ TriplesOk ps.toList ∧ ∀ (pos : Pos) (cv : Value), codeAmong pos ps.toList = some cv → ∃ c, cv = .ref c ∧ G c = some (LamX.CodeO c (q ++ ".<locals>." ++ "<lambda>"))
  | .err C fs => ∃ (oe : Obj) (us : Array Value) (dd : Addr) (vs : List V), H a = some (ErrO a oe) ∧ oe.data = .fields us ∧ oe.cls = .ref (He.fAd K (C, none)) ∧ oe.dict = some dd ∧ G dd = some (.xd ((fs.map (·.1)).zip vs)) ∧ DnAll K G A vs (fs.map (·.2))
structure Rel (K : PySem.W.Frag) (A : List Addr) (S : Sto) (G H : Hp) : Prop where
  sub : Same G H
  len : A.length = S.length
  nd : A.Nodup
  dis : ∀ (n : Nat) (a : Addr), A[n]? = some a → S[n]? ≠ some .dead → G a = none
  live : ∀ a ∈ A, H a ≠ none
  ob : ∀ (n : Nat) (a : Addr) (o : Ob), A[n]? = some a → S[n]? = some o → ObR K G A H a o
  nt : ∀ (b : Addr) (ps : Array Value), G b ≠ some (.tbl ps)
def EnvR (K : PySem.W.Frag) (G : Hp) (A : List Addr) (s : L2.St) (r : Env) : Prop := s.length = r.length ∧ ∀ (i : Nat) (d : D), r[i]? = some (some d) → ∃ v, s[i]? = some (some v) ∧ Dn K G A v d
section
variable {K : PySem.W.Frag} {G G' H H' : Hp} {A A' : List Addr} {S : Sto} {s : L2.St} {r : Env}
theorem EnvR.mono (e : Same G G') (p : Pre A A') (h : EnvR K G A s r) : EnvR K G' A' s r :=
  ⟨h.1, fun i d q => let ⟨v, a, b⟩ := h.2 i d q; ⟨v, a, b.mono e p⟩⟩
theorem EnvR.set {i : Nat} {v : V} {d : D} (h : EnvR K G A s r) (x : Dn K G A v d) : EnvR K G A (s.set i (some v)) (r.set i (some d)) := by
  refine ⟨by simp [h.1], fun j e q => ?_⟩
  by_cases hj : i = j
  · subst hj
    have hl : i < r.length := by
      have := (List.getElem?_eq_some_iff.mp q).1
      simpa using this
    rw [List.getElem?_set_self hl] at q
    cases q
    exact ⟨v, by rw [List.getElem?_set_self (by rw [h.1]; exact hl)], x⟩
  · rw [List.getElem?_set_ne hj] at q
    obtain ⟨w, a, b⟩ := h.2 j e q
    exact ⟨w, by rw [List.getElem?_set_ne hj]; exact a, b⟩
theorem ObR.mono (hG : Same G G') (hA : Pre A A') {a : Addr} {o : Ob} (hH : ∀ u, H a = some u → H' a = some u) (h : ObR K G A H a o) : ObR K G' A' H' a o := by
  cases o with
  | lst ds => obtain ⟨vs, e, t⟩ := h; exact ⟨vs, hH _ e, t.mono hG hA⟩
  | dct ds => obtain ⟨vs, e, t⟩ := h; exact ⟨vs, hH _ e, t.mono hG hA⟩
  | ins C fs => obtain ⟨dx, vs, e, t⟩ := h; exact ⟨dx, vs, hH _ e, t.mono hG hA⟩
  | dead => exact h
  | tab q =>
    obtain ⟨q0, ps, e, t, w⟩ := h
    exact ⟨q0, ps, hH _ e, t, fun pos cv hc => let ⟨c, e1, e2⟩ := w pos cv hc; ⟨c, e1, hG _ _ e2⟩⟩
  | err C fs =>
    obtain ⟨oe, us, dd, vs, e, h1, h2, h3, h4, h5⟩ := h
    exact ⟨oe, us, dd, vs, hH _ e, h1, h2, h3, hG _ _ h4, h5.mono hG hA⟩
theorem upd_same_of {H : Hp} {p : Addr} {o : HO} (h : H p = none) : Same H (upd H p o) := fun b x e => by
  rw [upd_ne (ne_of_none e h)]
  exact e
theorem Rel.free (q : Rel K A S G H) {p : Addr} (h : H p = none) : G p = none := q.sub.free h
theorem Rel.notin (q : Rel K A S G H) {p : Addr} (h : H p = none) : p ∉ A := fun m => q.live p m h
theorem Rel.disApp (q : Rel K A S G H) {p : Addr} {b : Ob} (hG : G p = none) : ∀ (n : Nat) (a : Addr), (A ++ [p])[n]? = some a → (S ++ [b])[n]? ≠ some .dead → G a = none := fun n a m hd => by
  by_cases hn : n < A.length
  · rw [List.getElem?_append_left hn] at m
    rw [List.getElem?_append_left (by rw [← q.len]; exact hn)] at hd
    exact q.dis n a m hd
  · have hn' : n = A.length := by
      have := (List.getElem?_eq_some_iff.mp m).1
      simp at this
      omega
    subst hn'
    have e1' : a = p := by simpa using m.symm
    rw [e1']; exact hG
/-- a new thing that never changes -/
theorem nt_upd {G : Hp} {p : Addr} {o : HO} (h : ∀ (b : Addr) (ps : Array Value), G b ≠ some (.tbl ps)) (no : ∀ ps, o ≠ .tbl ps) : ∀ (b : Addr) (ps : Array Value), upd G p o b ≠ some (.tbl ps) := fun b ps z => by
  by_cases hb : b = p
  · subst hb; rw [upd_same] at z; cases z; exact no ps rfl
  · rw [upd_ne hb] at z; exact h b ps z
theorem Rel.new (q : Rel K A S G H) {p : Addr} (h : H p = none) (o : HO) (no : ∀ ps, o ≠ .tbl ps := by intro ps z; cases z) : Rel K A S (upd G p o) (upd H p o) := by
  have hG := q.free h
  refine ⟨fun b x e => ?_, q.len, q.nd, fun n a m hd => ?_, fun a m => ?_, fun n a ob e1 e2 => ?_, nt_upd q.nt no⟩
  · by_cases hb : b = p
    · subst hb; rw [upd_same] at e ⊢; exact e
    · rw [upd_ne hb] at e ⊢; exact q.sub _ _ e
  · have : a ≠ p := fun z => q.notin h (z ▸ List.mem_of_getElem? m)
    rw [upd_ne this]; exact q.dis n a m hd
  · have : a ≠ p := fun z => q.notin h (z ▸ m)
    rw [upd_ne this]; exact q.live a m
  · exact (q.ob n a ob e1 e2).mono (upd_same_of hG) (Pre.refl _) (upd_same_of h a)
/-- a new thing that may change -/
theorem Rel.alloc (q : Rel K A S G H) {p : Addr} (h : H p = none) {o : HO} {b : Ob} (hb : ObR K G (A ++ [p]) (upd H p o) p b) : Rel K (A ++ [p]) (S ++ [b]) G (upd H p o) := by
  have hG := q.free h
  refine ⟨q.sub.trans (upd_same_of h), by simp [q.len], ?_, q.disApp hG, fun a m => ?_, fun n a ob e1 e2 => ?_, q.nt⟩
  · rw [List.nodup_append]
    refine ⟨q.nd, by simp, fun a m c mc => ?_⟩
    have : c = p := by simpa using mc
    subst this
    exact fun z => q.notin h (z ▸ m)
  · rcases List.mem_append.mp m with m | m
    · have : a ≠ p := fun z => q.notin h (z ▸ m)
      rw [upd_ne this]; exact q.live a m
    · have : a = p := by simpa using m
      subst this; rw [upd_same]; simp
  · by_cases hn : n < A.length
    · rw [List.getElem?_append_left hn] at e1
      rw [List.getElem?_append_left (by rw [← q.len]; exact hn)] at e2
      exact (q.ob n a ob e1 e2).mono (Same.refl _) (Pre.app _ _) (upd_same_of h a)
    · have hn' : n = A.length := by
        have := (List.getElem?_eq_some_iff.mp e1).1
        simp at this
        omega
      subst hn'
      have e1' : a = p := by simpa using e1.symm
      have e2' : ob = b := by
        rw [q.len] at e2
        simpa using e2.symm
      subst e1' e2'
      exact hb
/-- a thing that changes -/
theorem Rel.write (q : Rel K A S G H) {n : Nat} {a : Addr} {o : HO} {b : Ob} (e : A[n]? = some a) (nd : S[n]? ≠ some .dead) (hb : ObR K G A (upd H a o) a b) : Rel K A (S.set n b) G (upd H a o) := by
  have ma : a ∈ A := List.mem_of_getElem? e
  refine ⟨fun c x ec => ?_, by simp [q.len], q.nd, fun j c m hd => ?_, fun c m => ?_, fun j c ob e1 e2 => ?_, q.nt⟩
  · have : c ≠ a := fun z => by
      have := q.dis n a e nd
      rw [z, this] at ec; cases ec
    rw [upd_ne this]; exact q.sub _ _ ec
  · by_cases hj : n = j
    · subst hj
      rw [e] at m; cases m
      exact q.dis n a e nd
    · rw [List.getElem?_set_ne hj] at hd
      exact q.dis j c m hd
  · by_cases hc : c = a
    · subst hc; rw [upd_same]; simp
    · rw [upd_ne hc]; exact q.live c m
  · by_cases hj : n = j
    · subst hj
      rw [e] at e1; cases e1
      have hl : n < S.length := by rw [← q.len]; exact (List.getElem?_eq_some_iff.mp e).1
      rw [List.getElem?_set_self hl] at e2
      cases e2
      exact hb
    · rw [List.getElem?_set_ne hj] at e2
      have hc : c ≠ a := fun z => by
        subst z
        obtain ⟨h1, f1⟩ := List.getElem?_eq_some_iff.mp e
        obtain ⟨h2, f2⟩ := List.getElem?_eq_some_iff.mp e1
        exact hj ((List.getElem_inj q.nd).mp (f1.trans f2.symm))
      exact (q.ob j c ob e1 e2).mono (Same.refl _) (Pre.refl _) fun u z => by rw [upd_ne hc]; exact z
end
/-! ## the state later on: what never changes is kept, and so is every thing beside the ones that may change -/
structure Ex (A : List Addr) (G H : Hp) (A' : List Addr) (G' H' : Hp) : Prop where
  g : Same G G'
  p : Pre A A'
  f : ∀ a o, a ∉ A → H a = some o → a ∉ A' ∧ H' a = some o
  kx : ∀ a o, H a = some o → G a = none → G' a = none ∨ (a ∉ A ∧ ∃ fs, o = .xd fs)
  l : ∀ a o, H a = some o → ∃ o', H' a = some o'
theorem Ex.k {A A' : List Addr} {G G' H H' : Hp} (e : Ex A G H A' G' H') (a : Addr) (o : HO) (h : H a = some o) (g : G a = none) (no : ∀ fs, o ≠ .xd fs := by intro fs z; cases z) : G' a = none :=
  (e.kx a o h g).resolve_right fun ⟨_, fs, z⟩ => no fs z
theorem Pre.mem {A A' : List Addr} (p : Pre A A') {a : Addr} (h : a ∈ A) : a ∈ A' := by
  obtain ⟨i, hi⟩ := List.getElem?_of_mem h
  exact List.mem_of_getElem? (p i a hi)
theorem Ex.refl {A : List Addr} {G H : Hp} : Ex A G H A G H := ⟨Same.refl _, Pre.refl _, fun _ _ n e => ⟨n, e⟩, fun _ _ _ e => .inl e, fun _ o e => ⟨o, e⟩⟩
theorem Ex.trans {A A1 A2 : List Addr} {G G1 G2 H H1 H2 : Hp} (a : Ex A G H A1 G1 H1) (b : Ex A1 G1 H1 A2 G2 H2) : Ex A G H A2 G2 H2 :=
  ⟨a.g.trans b.g, a.p.trans b.p, fun x o n e => let ⟨n1, e1⟩ := a.f x o n e; b.f x o n1 e1, fun x o e n => (a.kx x o e n).elim (fun n1 => by
    by_cases hx : x ∈ A
    · obtain ⟨o1, e1⟩ := a.l x o e
      exact (b.kx x o1 e1 n1).imp_right fun ⟨z, _⟩ => absurd (a.p.mem hx) z
    · exact (b.kx x o (a.f x o hx e).2 n1).imp_right fun ⟨_, z⟩ => ⟨hx, z⟩) .inr, fun x o e => let ⟨o1, e1⟩ := a.l x o e; b.l x o1 e1⟩
section
variable {K : PySem.W.Frag} {G H : Hp} {A : List Addr} {S : Sto}
theorem Rel.exNew (q : Rel K A S G H) {p : Addr} (h : H p = none) (o : HO) : Ex A G H A (upd G p o) (upd H p o) :=
  ⟨upd_same_of (q.free h), Pre.refl _, fun a u n e => ⟨n, upd_same_of h a u e⟩, fun a u e n => .inl (by rw [upd_ne (ne_of_none e h)]; exact n), fun a u e => ⟨u, upd_same_of h a u e⟩⟩
theorem Rel.exAlloc (q : Rel K A S G H) {p : Addr} (h : H p = none) (o : HO) : Ex A G H (A ++ [p]) G (upd H p o) := by
  refine ⟨Same.refl _, Pre.app _ _, fun a u n e => ⟨fun m => ?_, upd_same_of h a u e⟩, fun a u e n => .inl n, fun a u e => ⟨u, upd_same_of h a u e⟩⟩
  rcases List.mem_append.mp m with m | m
  · exact n m
  · have z : a = p := by simpa using m
    rw [z, h] at e
    cases e
theorem upd_some (H : Hp) (a : Addr) (o : HO) (b : Addr) (u : HO) (e : H b = some u) : ∃ u', upd H a o b = some u' := by
  by_cases hb : b = a
  · subst hb; exact ⟨o, upd_same⟩
  · exact ⟨u, by rw [upd_ne hb]; exact e⟩
theorem Ex.beside {A A' : List Addr} {G H G' H' : Hp} (e : Ex A G H A' G' H') {p : Addr} (h : H p = none) (o : HO) : Ex A G H A' G' (upd H' p o) :=
  ⟨e.g, e.p, fun a u n q => ⟨(e.f a u n q).1, by rw [upd_ne (ne_of_none q h)]; exact (e.f a u n q).2⟩, e.kx, fun a u q => let ⟨o', q'⟩ := e.l a u q; ⟨o', by rw [upd_ne (ne_of_none q h)]; exact q'⟩⟩
theorem Ex.freeze {A A' : List Addr} {G H G' H' : Hp} (e : Ex A G H A' G' H') {p : Addr} (h : H p = none) (h1 : G' p = none) (o : HO) : Ex A G H A' (upd G' p o) H' :=
  ⟨e.g.trans (upd_same_of h1), e.p, e.f, fun a u q n => by rw [upd_ne (ne_of_none q h)]; exact e.kx a u q n, e.l⟩
theorem Ex.own {A A' : List Addr} {G H G' H' : Hp} (e : Ex A G H A' G' H') {p : Addr} (h : H p = none) : Ex A G H (A' ++ [p]) G' H' :=
  ⟨e.g, e.p.trans (Pre.app _ _), fun a u n q => ⟨fun m => by
    rcases List.mem_append.mp m with m | m
    · exact (e.f a u n q).1 m
    · have z : a = p := by simpa using m
      exact absurd z (ne_of_none q h), (e.f a u n q).2⟩, e.kx, e.l⟩
theorem Rel.exWrite (q : Rel K A S G H) {a : Addr} (h : a ∈ A) (o : HO) : Ex A G H A G (upd H a o) :=
  ⟨Same.refl _, Pre.refl _, fun b u n e => ⟨n, by
    have : b ≠ a := fun z => n (z ▸ h)
    rw [upd_ne this]; exact e⟩, fun _ _ _ n => .inl n, upd_some H a o⟩
/-- a thing beside all these is new or changes -/
theorem Rel.beside (q : Rel K A S G H) {p : Addr} (h1 : G p = none) (h2 : p ∉ A) (o : HO) : Rel K A S G (upd H p o) := by
  refine ⟨fun b x e => ?_, q.len, q.nd, q.dis, fun a m => ?_, fun n a ob e1 e2 => ?_, q.nt⟩
  · have : b ≠ p := fun z => by rw [z, h1] at e; cases e
    rw [upd_ne this]; exact q.sub _ _ e
  · have : a ≠ p := fun z => h2 (z ▸ m)
    rw [upd_ne this]; exact q.live a m
  · have : a ≠ p := fun z => h2 (z ▸ List.mem_of_getElem? e1)
    exact (q.ob n a ob e1 e2).mono (Same.refl _) (Pre.refl _) fun u z => by rw [upd_ne this]; exact z
/-- .. never changes any more -/
theorem Rel.freeze (q : Rel K A S G H) {p : Addr} {o : HO} (h1 : G p = none) (h2 : p ∉ A) (h3 : H p = some o) (no : ∀ ps, o ≠ .tbl ps := by intro ps z; cases z) : Rel K A S (upd G p o) H := by
  refine ⟨fun b x e => ?_, q.len, q.nd, fun n a m hd => ?_, q.live, fun n a ob e1 e2 => ?_, nt_upd q.nt no⟩
  · by_cases hb : b = p
    · subst hb; rw [upd_same] at e; cases e; exact h3
    · rw [upd_ne hb] at e; exact q.sub _ _ e
  · have : a ≠ p := fun z => h2 (z ▸ List.mem_of_getElem? m)
    rw [upd_ne this]; exact q.dis n a m hd
  · exact (q.ob n a ob e1 e2).mono (upd_same_of h1) (Pre.refl _) fun u z => z
/-- .. is one of those that may change -/
theorem Rel.own (q : Rel K A S G H) {p : Addr} {b : Ob} (h1 : G p = none) (h2 : p ∉ A) (h3 : H p ≠ none) (hb : ObR K G (A ++ [p]) H p b) : Rel K (A ++ [p]) (S ++ [b]) G H := by
  refine ⟨q.sub, by simp [q.len], ?_, q.disApp h1, fun a m => ?_, fun n a ob e1 e2 => ?_, q.nt⟩
  · rw [List.nodup_append]
    refine ⟨q.nd, by simp, fun a m c mc => ?_⟩
    have : c = p := by simpa using mc
    subst this
    exact fun z => h2 (z ▸ m)
  · rcases List.mem_append.mp m with m | m
    · exact q.live a m
    · have : a = p := by simpa using m
      subst this; exact h3
  · by_cases hn : n < A.length
    · rw [List.getElem?_append_left hn] at e1
      rw [List.getElem?_append_left (by rw [← q.len]; exact hn)] at e2
      exact (q.ob n a ob e1 e2).mono (Same.refl _) (Pre.app _ _) fun _ z => z
    · have hn' : n = A.length := by
        have := (List.getElem?_eq_some_iff.mp e1).1
        simp at this
        omega
      subst hn'
      have e1' : a = p := by simpa using e1.symm
      have e2' : ob = b := by
        rw [q.len] at e2
        simpa using e2.symm
      subst e1' e2'
      exact hb
end
/-! ## reading through a reference -/
def vwO (n : Nat) : Option Ob → D
  | some (.lst xs) => .lst xs
  | some (.dct kvs) => .dct kvs
  | _ => .ref n
def vw (S : Sto) : D → D
  | .ref n => vwO n S[n]?
  | d => d
inductive Dv (K : PySem.W.Frag) (G : Hp) (A : List Addr) (H : Hp) : V → D → Prop
  | of {v : V} {d : D} : Dn K G A v d → Dv K G A H v d
  | lst {a : Addr} {vs : List V} {ds : List D} : H a = some (.lst vs) → DnAll K G A vs ds → Dv K G A H (.ref a) (.lst ds)
  | dct {a : Addr} {kvs : List (Key × V)} {kds : List (Key × D)} : H a = some (.dK kvs) → DnKV K G A kvs kds → Dv K G A H (.ref a) (.dct kds)
section
variable {K : PySem.W.Frag} {G H : Hp} {A : List Addr} {S : Sto} {v : V} {d : D}
theorem Rel.view (q : Rel K A S G H) (h : Dn K G A v d) : Dv K G A H v (vw S d) := by
  cases h with
  | @ref n a e =>
    have hn : n < S.length := by rw [← q.len]; exact (List.getElem?_eq_some_iff.mp e).1
    have eo : S[n]? = some S[n] := List.getElem?_eq_getElem hn
    have w := q.ob n a _ e eo
    show Dv K G A H (.ref a) (vwO n S[n]?)
    rw [eo]
    cases hs : S[n] with
    | lst xs => rw [hs] at w; obtain ⟨vs, e1, t⟩ := w; exact .lst e1 t
    | dct xs => rw [hs] at w; obtain ⟨vs, e1, t⟩ := w; exact .dct e1 t
    | ins _ _ => exact .of (.ref e)
    | dead => exact .of (.ref e)
    | tab _ => exact .of (.ref e)
    | err _ _ => exact .of (.ref e)
  | non => exact .of .non
  | bl b => exact .of (.bl b)
  | int i => exact .of (.int i)
  | str x o => exact .of (.str x o)
  | lst s t => exact .of (.lst s t)
  | tup s t => exact .of (.tup s t)
  | dct s t => exact .of (.dct s t)
  | fn q t => exact .of (.fn q t)
  | obj q l t => exact .of (.obj q l t)
theorem Dv.lstE {ds : List D} (h : Dv K G A H v (.lst ds)) (q : Rel K A S G H) : ∃ a vs, v = .ref a ∧ LAt K H a vs ∧ DnAll K G A vs ds := by
  cases h with
  | of h => cases h with | lst s t => exact ⟨_, _, rfl, sql_same q.sub s, t⟩
  | lst e t => exact ⟨_, _, rfl, .inl (.of e), t⟩
theorem Dv.tupE {ds : List D} (h : Dv K G A H v (.tup ds)) (q : Rel K A S G H) : ∃ a vs, v = .ref a ∧ TupAt K H a vs ∧ DnAll K G A vs ds := by
  cases h with
  | of h => cases h with | tup s t => exact ⟨_, _, rfl, s.same q.sub, t⟩
theorem Dv.dctE {ds : List (Key × D)} (h : Dv K G A H v (.dct ds)) (q : Rel K A S G H) : ∃ a vs, v = .ref a ∧ H a = some (.dK vs) ∧ DnKV K G A vs ds := by
  cases h with
  | of h => cases h with | dct s t => exact ⟨_, _, rfl, q.sub _ _ s, t⟩
  | dct e t => exact ⟨_, _, rfl, e, t⟩
theorem Dv.intE {i : Int} (h : Dv K G A H v (.int i)) : v = .int i := by cases h with | of h => cases h; rfl
theorem Dv.blE {i : Bool} (h : Dv K G A H v (.bl i)) : v = .bl i := by cases h with | of h => cases h; rfl
theorem Dv.nonE (h : Dv K G A H v .non) : v = .non := by cases h with | of h => cases h; rfl
theorem Dv.strE {x : Str} (h : Dv K G A H v (.str x)) : v = .str x ∧ PyData.strOk x = true := by cases h with | of h => cases h with | str _ o => exact ⟨rfl, o⟩
end
end FL
end
section
set_option Elab.async false
set_option linter.all false
set_option maxRecDepth 100000
set_option autoImplicit false
namespace FL
open PySem PySem.Spec PyProof.Rows L2
/-! ## judgements -/
/-- how an error stands for its datum -/
def XR (mg : Str → Option Value) (K : PySem.W.Frag) (G : Hp) (A : List Addr) (H : Hp) (x : Exn) (c : Value) (dx : Option Addr) : Prop :=
  mg x.cls = some c ∧ ∃ d vs, dx = some d ∧ H d = some (.xd (x.ks.zip vs)) ∧ DnAll K G A vs x.ds ∧ d ∉ A ∧ x.ks.length = x.ds.length
def QE (K : PySem.W.Frag) (mg : Str → Option Value) (EE : XK) (G : Hp) (A : List Addr) (H : Hp) : Exn → Sto → Prop := fun x S' =>
  ∀ G' A' H' c dx, Ex A G H A' G' H' → Rel K A' S' G' H' → XR mg K G' A' H' x c dx → EE c dx H'
def QV (K : PySem.W.Frag) (G : Hp) (A : List Addr) (H : Hp) (Q : VK) : D → Sto → Prop := fun d S' =>
  ∀ G' A' H' v, Ex A G H A' G' H' → Rel K A' S' G' H' → Dn K G' A' v d → Q v H'
def QB (K : PySem.W.Frag) (G : Hp) (A : List Addr) (H : Hp) (Q : Bool → Hp → Prop) : Bool → Sto → Prop := fun b S' =>
  ∀ G' A' H', Ex A G H A' G' H' → Rel K A' S' G' H' → Q b H'
def QL (K : PySem.W.Frag) (G : Hp) (A : List Addr) (H : Hp) (Q : List V → Hp → Prop) : List D → Sto → Prop := fun ds S' =>
  ∀ G' A' H' vs, Ex A G H A' G' H' → Rel K A' S' G' H' → DnAll K G' A' vs ds → Q vs H'
def QEnv (K : PySem.W.Frag) (G : Hp) (A : List Addr) (H : Hp) (Q : L2.St → Hp → Prop) : Env → Sto → Prop := fun r S' =>
  ∀ G' A' H' s', Ex A G H A' G' H' → Rel K A' S' G' H' → EnvR K G' A' s' r → Q s' H'
def QF (K : PySem.W.Frag) (G : Hp) (A : List Addr) (H : Hp) (T : Ends) : Fl → Sto → Prop
  | .nx r, S' => QEnv K G A H T.nx r S'
  | .bk r, S' => QEnv K G A H T.bk r S'
  | .ct r, S' => QEnv K G A H T.ct r S'
  | .rt d, S' => QV K G A H T.rt d S'
section
variable {K : PySem.W.Frag} {mg : Str → Option Value} {EE : XK} {G G1 H H1 : Hp} {A A1 : List Addr} {S : Sto}
theorem QE.mono (e : Ex A G H A1 G1 H1) {x : Exn} (h : QE K mg EE G A H x S) : QE K mg EE G1 A1 H1 x S :=
  fun G' A' H' c dx a => h G' A' H' c dx (e.trans a)
theorem QV.mono (e : Ex A G H A1 G1 H1) {Q : VK} {d : D} (h : QV K G A H Q d S) : QV K G1 A1 H1 Q d S :=
  fun G' A' H' v a => h G' A' H' v (e.trans a)
theorem QB.mono (e : Ex A G H A1 G1 H1) {Q : Bool → Hp → Prop} {d : Bool} (h : QB K G A H Q d S) : QB K G1 A1 H1 Q d S :=
  fun G' A' H' a => h G' A' H' (e.trans a)
theorem QL.mono (e : Ex A G H A1 G1 H1) {Q : List V → Hp → Prop} {d : List D} (h : QL K G A H Q d S) : QL K G1 A1 H1 Q d S :=
  fun G' A' H' v a => h G' A' H' v (e.trans a)
theorem QEnv.mono (e : Ex A G H A1 G1 H1) {Q : L2.St → Hp → Prop} {d : Env} (h : QEnv K G A H Q d S) : QEnv K G1 A1 H1 Q d S :=
  fun G' A' H' v a => h G' A' H' v (e.trans a)
theorem QF.mono (e : Ex A G H A1 G1 H1) {T : Ends} {f : Fl} (h : QF K G A H T f S) : QF K G1 A1 H1 T f S := by
  cases f with
  | nx r => exact QEnv.mono e h
  | bk r => exact QEnv.mono e h
  | ct r => exact QEnv.mono e h
  | rt d => exact QV.mono e h
end
abbrev FEx := Env → M D
abbrev FTx := Env → M Bool
abbrev FAx := Env → M (List D)
abbrev FSx := Env → M Fl
abbrev FGx := D → Env → M Env
def RE (X : Cx) (EE : XK) (f : FEx) : TE := fun s H Q => ∃ r G A S, EnvR X.K G A s r ∧ Rel X.K A S G H ∧ (f r S).post (QV X.K G A H Q) (QE X.K X.mg EE G A H)
def RT (X : Cx) (EE : XK) (f : FTx) : TT := fun s H Q => ∃ r G A S, EnvR X.K G A s r ∧ Rel X.K A S G H ∧ (f r S).post (QB X.K G A H Q) (QE X.K X.mg EE G A H)
def RA (X : Cx) (EE : XK) (f : FAx) : TA := fun s H Q => ∃ r G A S, EnvR X.K G A s r ∧ Rel X.K A S G H ∧ (f r S).post (QL X.K G A H Q) (QE X.K X.mg EE G A H)
def RS (X : Cx) (EE : XK) (f : FSx) : TS := fun T s H => ∃ r G A S, EnvR X.K G A s r ∧ Rel X.K A S G H ∧ (f r S).post (QF X.K G A H T) (QE X.K X.mg EE G A H)
def RG (X : Cx) (EE : XK) (f : FGx) : TG := fun v s H Q => ∃ r G A S d, EnvR X.K G A s r ∧ Rel X.K A S G H ∧ Dn X.K G A v d ∧ (f d r S).post (QEnv X.K G A H Q) (QE X.K X.mg EE G A H)
def RGs (X : Cx) (EE : XK) (f : List D → Env → M Env) : TGs := fun vs s H Q => ∃ r G A S ds, EnvR X.K G A s r ∧ Rel X.K A S G H ∧ DnAll X.K G A vs ds ∧ (f ds r S).post (QEnv X.K G A H Q) (QE X.K X.mg EE G A H)
abbrev FE (X : Cx) (EE : XK) (e : Expr) (f : FEx) : Prop := PE X e (RE X EE f)
abbrev FT (X : Cx) (EE : XK) (e : Expr) (f : FTx) : Prop := PT X e (RT X EE f)
abbrev FW (X : Cx) (EE : XK) (e : Expr) (f : FTx) : Prop := PW X e (RT X EE f)
abbrev FA (X : Cx) (EE : XK) (es : List Expr) (f : FAx) : Prop := PA X es (RA X EE f)
abbrev FS (X : Cx) (EE : XK) (st : Stmt) (f : FSx) : Prop := PS X st (RS X EE f)
abbrev FSs (X : Cx) (EE : XK) (st : List Stmt) (f : FSx) : Prop := PSs X st (RS X EE f)
abbrev FG (X : Cx) (EE : XK) (tg : Expr) (f : FGx) : Prop := PG X tg (RG X EE f)
abbrev FGs (X : Cx) (EE : XK) (tg : List Expr) (f : List D → Env → M Env) : Prop := PGs X tg (RGs X EE f)
theorem pe_weak {X : Cx} {e : Expr} {t t' : TE} (h : PE X e t) (w : ∀ s H Q, t' s H Q → t s H Q) : PE X e t' := ⟨fun pins s σ H Q I q => h.run pins s σ H Q I (w _ _ _ q)⟩
theorem pt_weak {X : Cx} {e : Expr} {t t' : TT} (h : PT X e t) (w : ∀ s H Q, t' s H Q → t s H Q) : PT X e t' := ⟨fun pins s σ H Q I q => h.run pins s σ H Q I (w _ _ _ q)⟩
theorem pw_weak {X : Cx} {e : Expr} {t t' : TT} (h : PW X e t) (w : ∀ s H Q, t' s H Q → t s H Q) : PW X e t' := ⟨fun wh pins s σ H Q I q => h.run wh pins s σ H Q I (w _ _ _ q)⟩
theorem pa_weak {X : Cx} {e : List Expr} {t t' : TA} (h : PA X e t) (w : ∀ s H Q, t' s H Q → t s H Q) : PA X e t' := ⟨fun pos pins s σ H Q I q => h.run pos pins s σ H Q I (w _ _ _ q)⟩
theorem ps_weak {X : Cx} {e : Stmt} {t t' : TS} (h : PS X e t) (w : ∀ T s H, t' T s H → t T s H) : PS X e t' := ⟨fun pins s σ H T I q => h.run pins s σ H T I (w _ _ _ q)⟩
theorem pss_weak {X : Cx} {e : List Stmt} {t t' : TS} (h : PSs X e t) (w : ∀ T s H, t' T s H → t T s H) : PSs X e t' := ⟨fun pins s σ H T I q => h.run pins s σ H T I (w _ _ _ q)⟩
theorem pg_weak {X : Cx} {e : Expr} {t t' : TG} (h : PG X e t) (w : ∀ v s H Q, t' v s H Q → t v s H Q) : PG X e t' := ⟨fun pins s σ H v u Q I r q => h.run pins s σ H v u Q I r (w _ _ _ _ q)⟩
theorem pgs_weak {X : Cx} {e : List Expr} {t t' : TGs} (h : PGs X e t) (w : ∀ v s H Q, t' v s H Q → t v s H Q) : PGs X e t' := ⟨fun pins s σ H v u Q I r q => h.run pins s σ H v u Q I r (w _ _ _ _ q)⟩
section
variable {X : Cx} {EE : XK}
/-- one part after another: the first is an expression -/
theorem re_bnd {s : L2.St} {H : Hp} {Q : VK} {r : Env} {G : Hp} {A : List Addr} {S : Sto} {α : Type} {f : FEx} {k : D → M α} {P : α → Sto → Prop} {E : Exn → Sto → Prop}
    (hr : EnvR X.K G A s r) (hR : Rel X.K A S G H) (h : (bnd (f r) k S).post P E) (hE : ∀ x S', E x S' → QE X.K X.mg EE G A H x S')
    (w : ∀ G' A' H' v d S', Ex A G H A' G' H' → EnvR X.K G' A' s r → Rel X.K A' S' G' H' → Dn X.K G' A' v d → (k d S').post P E → Q v H') : RE X EE f s H Q := by
  rw [post_bnd] at h
  refine ⟨r, G, A, S, hr, hR, h.mono (fun d S' q G' A' H' v a c e => w G' A' H' v d S' a (hr.mono a.g a.p) c e q) hE⟩
theorem rt_bnd {s : L2.St} {H : Hp} {Q : Bool → Hp → Prop} {r : Env} {G : Hp} {A : List Addr} {S : Sto} {α : Type} {f : FTx} {k : Bool → M α} {P : α → Sto → Prop} {E : Exn → Sto → Prop}
    (hr : EnvR X.K G A s r) (hR : Rel X.K A S G H) (h : (bnd (f r) k S).post P E) (hE : ∀ x S', E x S' → QE X.K X.mg EE G A H x S')
    (w : ∀ G' A' H' d S', Ex A G H A' G' H' → EnvR X.K G' A' s r → Rel X.K A' S' G' H' → (k d S').post P E → Q d H') : RT X EE f s H Q := by
  rw [post_bnd] at h
  refine ⟨r, G, A, S, hr, hR, h.mono (fun d S' q G' A' H' a c => w G' A' H' d S' a (hr.mono a.g a.p) c q) hE⟩
theorem ra_bnd {s : L2.St} {H : Hp} {Q : List V → Hp → Prop} {r : Env} {G : Hp} {A : List Addr} {S : Sto} {α : Type} {f : FAx} {k : List D → M α} {P : α → Sto → Prop} {E : Exn → Sto → Prop}
    (hr : EnvR X.K G A s r) (hR : Rel X.K A S G H) (h : (bnd (f r) k S).post P E) (hE : ∀ x S', E x S' → QE X.K X.mg EE G A H x S')
    (w : ∀ G' A' H' v d S', Ex A G H A' G' H' → EnvR X.K G' A' s r → Rel X.K A' S' G' H' → DnAll X.K G' A' v d → (k d S').post P E → Q v H') : RA X EE f s H Q := by
  rw [post_bnd] at h
  refine ⟨r, G, A, S, hr, hR, h.mono (fun d S' q G' A' H' v a c e => w G' A' H' v d S' a (hr.mono a.g a.p) c e q) hE⟩
/-- the wish moved on -/
theorem post_on {α : Type} {m : R α} {P P' : α → Sto → Prop} {G G1 H H1 : Hp} {A A1 : List Addr} (a : Ex A G H A1 G1 H1) (h : m.post P (QE X.K X.mg EE G A H)) (w : ∀ d S', P d S' → P' d S') : m.post P' (QE X.K X.mg EE G1 A1 H1) :=
  h.mono w fun _ _ q => q.mono a
/-! ## names, constants -/
def eVar (i : Nat) : FEx := fun r => opt (r[i]?.join)
theorem fe_var {i : Nat} {e : Expr} (h : PE X e (tVar i)) : FE X EE e (eVar i) := by
  refine pe_weak h fun s H Q ⟨r, G, A, S, hr, hR, q⟩ => ?_
  unfold eVar at q
  rw [post_opt] at q
  obtain ⟨d, e1, q⟩ := q
  have e2 : r[i]? = some (some d) := by
    cases z : r[i]? with
    | none => rw [z] at e1; cases e1
    | some o => rw [z] at e1; cases o with
      | none => cases e1
      | some x => cases e1; rfl
  obtain ⟨v, e3, dn⟩ := hr.2 i d e2
  exact ⟨v, e3, q G A H v Ex.refl hR dn⟩
def eC (d : D) : FEx := fun _ => ret d
theorem fe_c {d : D} {v : V} {e : Expr} (h : PE X e (tC v)) (hd : ∀ G A, Dn X.K G A v d) : FE X EE e (eC d) := by
  refine pe_weak h fun s H Q ⟨r, G, A, S, hr, hR, q⟩ => ?_
  exact q G A H v Ex.refl hR (hd G A)
theorem fe_int {i : Int} {j pos} : FE X EE (.Constant (.int i) j pos) (eC (.int i)) := fe_c pe_int fun _ _ => .int i
theorem fe_str {x : Str} {j pos} (h : PyData.strOk x = true := by decide) : FE X EE (.Constant (.str x) j pos) (eC (.str x)) := fe_c pe_str fun _ _ => .str x h
theorem fe_bl {b : Bool} {j pos} : FE X EE (.Constant (.bool b) j pos) (eC (.bl b)) := fe_c pe_bl fun _ _ => .bl b
theorem fe_non {j pos} : FE X EE (.Constant .none j pos) (eC .non) := fe_c pe_non fun _ _ => .non
/-! ## two operands -/
def rD2 (K : PySem.W.Frag) (g : D → D → Option D) : R2 := fun x y H Q => ∃ G A S d e z, Rel K A S G H ∧ Dv K G A H x d ∧ Dv K G A H y e ∧ g d e = some z ∧
  ∀ G' H' v, Ex A G H A G' H' → Rel K A S G' H' → Dn K G' A v z → Q v H'
def eBin (g : D → D → Option D) (fa fb : FEx) : FEx := fun r => bnd (fa r) fun x => bnd (fb r) fun y => fun S => opt (g (vw S x) (vw S y)) S
variable {a b c : Expr} {fa fb fc : FEx} {pos : Pos}
theorem to_bin {g : D → D → Option D} : ∀ s H Q, RE X EE (eBin g fa fb) s H Q → tOp (rD2 X.K g) (RE X EE fa) (RE X EE fb) s H Q := by
  intro s H Q ⟨r, G, A, S, hr, hR, q⟩
  refine re_bnd hr hR q (fun _ _ z => z) fun G1 A1 H1 x d S1 a1 r1 R1 n1 q1 => ?_
  refine re_bnd r1 R1 q1 (fun _ _ z => z.mono a1) fun G2 A2 H2 y e S2 a2 r2 R2 n2 q2 => ?_
  rw [post_opt] at q2
  obtain ⟨z, hz, q2⟩ := q2
  exact ⟨G2, A2, S2, _, _, z, R2, R2.view (n1.mono a2.g a2.p), R2.view n2, hz, fun G3 H3 v a3 R3 n3 => q2 G3 A2 H3 v ((a1.trans a2).trans a3) R3 n3⟩
theorem fe_op {op : Operator} {g : D → D → Option D} (ho : OpR X (binaryOp op) (rD2 X.K g)) (ha : FE X EE a fa) (hb : FE X EE b fb) : FE X EE (.BinOp a op b pos) (eBin g fa fb) :=
  pe_weak (pe_op ho ha hb) to_bin
theorem fe_cmp {op : CmpOp} {g : D → D → Option D} (ho : OpR X (compareOp op) (rD2 X.K g)) (ha : FE X EE a fa) (hb : FE X EE b fb) (hm : behindInMarks op b = false := by first | exact nomark _ | rfl) : FE X EE (.Compare a [op] [b] pos) (eBin g fa fb) :=
  pe_weak (pe_cmpR ho ha hb hm) to_bin
theorem fe_ix {g : D → D → Option D} (ho : IxR X (rD2 X.K g)) (ha : FE X EE a fa) (hb : FE X EE b fb) (hs : PlainIx b := by exact fun _ _ => rfl) : FE X EE (.Subscript a b pos) (eBin g fa fb) :=
  pe_weak (pe_ix ho ha hb hs) to_bin
/-- a comparison as a test -/
def asB (f : FEx) : FTx := fun r => bnd (f r) fun d => match d with
  | .bl k => ret k
  | _ => fun _ => .no
theorem to_test {g : D → D → Option D} : ∀ s H Q, RT X EE (asB (eBin g fa fb)) s H Q → tTest (tOp (rD2 X.K g) (RE X EE fa) (RE X EE fb)) s H Q := by
  intro s H Q ⟨r, G, A, S, hr, hR, q⟩
  refine to_bin s H _ (re_bnd hr hR q (fun _ _ z => z) fun G1 A1 H1 x d S1 a1 r1 R1 n1 q1 => ?_)
  cases d with
  | bl k => cases n1; exact ⟨k, rfl, q1 G1 A1 H1 a1 R1⟩
  | non => exact q1.elim
  | int _ => exact q1.elim
  | str _ => exact q1.elim
  | lst _ => exact q1.elim
  | tup _ => exact q1.elim
  | dct _ => exact q1.elim
  | ref _ => exact q1.elim
  | fn _ _ => exact q1.elim
  | obj _ _ _ => exact q1.elim
theorem ft_cmp {op : CmpOp} {g : D → D → Option D} (ho : OpR X (compareOp op) (rD2 X.K g)) (ha : FE X EE a fa) (hb : FE X EE b fb) (hm : behindInMarks op b = false := by first | exact nomark _ | rfl) : FT X EE (.Compare a [op] [b] pos) (asB (eBin g fa fb)) :=
  pt_weak (pt_cmpR ho ha hb hm) to_test
/-- a chain a < b < c -/
def eChain (g g' : D → D → Option D) (fa fb fc : FEx) : FEx := fun r => bnd (fa r) fun x => bnd (fb r) fun y => bnd (fun S => opt (g (vw S x) (vw S y)) S) fun k => match k with
  | .bl true => bnd (fc r) fun z => fun S => opt (g' (vw S y) (vw S z)) S
  | .bl false => ret (.bl false)
  | _ => fun _ => .no
end
end FL
end
section
set_option Elab.async false
set_option linter.all false
set_option maxRecDepth 100000
set_option autoImplicit false
namespace FL
open PySem PySem.Spec PyProof.Rows L2
section
variable {X : Cx} {EE : XK} {a b c : Expr} {fa fb fc : FEx} {ta tb : FTx} {pos : Pos} {rest : List Expr}
/-! ## truth -/
def cap {α : Type} (n : Nat) (a : α) : Option α := if n ≤ 1000000 then some a else none
theorem cap_eq {α : Type} {n : Nat} {a b : α} (h : cap n a = some b) : a = b ∧ n ≤ 1000000 := by
  unfold cap at h
  split at h
  · rename_i hl; cases h; exact ⟨rfl, hl⟩
  · cases h
def truD : D → Option Bool
  | .non => some false
  | .bl b => some b
  | .int i => some (i != 0)
  | .str x => cap x.length ((x.length : Int) != 0)
  | .lst xs => some (!xs.isEmpty)
  | .tup xs => some (!xs.isEmpty)
  | .dct xs => some (!xs.isEmpty)
  | .ref _ => none
  | .fn _ _ => none
  | .obj _ _ _ => none
theorem small_line {n : Nat} (h : n ≤ 1000000) : n ≤ sizeLine := Nat.le_trans h (by decide)
theorem isEmpty_all {K : PySem.W.Frag} {G : Hp} {A : List Addr} {vs : List V} {ds : List D} (h : DnAll K G A vs ds) : vs.isEmpty = ds.isEmpty := by cases h <;> rfl
theorem isEmpty_kvs {K : PySem.W.Frag} {G : Hp} {A : List Addr} {vs : List (Key × V)} {ds : List (Key × D)} (h : DnKV K G A vs ds) : vs.isEmpty = ds.isEmpty := by cases h <;> rfl
theorem tru_v {K : PySem.W.Frag} {G H : Hp} {A : List Addr} {S : Sto} {v : V} {d : D} {k : Bool} (R : Rel K A S G H) (h : Dv K G A H v d) (e : truD d = some k) : TruV K v H k := by
  cases d with
  | non => rw [h.nonE]; cases e; rfl
  | bl b => rw [h.blE]; cases e; rfl
  | int i => rw [h.intE]; cases e; rfl
  | str x =>
    obtain ⟨rfl, _⟩ := h.strE
    obtain ⟨rfl, hx⟩ := cap_eq (show cap x.length ((x.length : Int) != 0) = some k from e)
    exact ⟨small_line hx, rfl⟩
  | lst xs => obtain ⟨p, vs, rfl, s, t⟩ := h.lstE R; cases e; exact .inl ⟨vs, s.sq, by rw [isEmpty_all t]⟩
  | tup xs => obtain ⟨p, vs, rfl, s, t⟩ := h.tupE R; cases e; exact .inr (.inl ⟨vs, s.sq, by rw [isEmpty_all t]⟩)
  | dct xs => obtain ⟨p, vs, rfl, s, t⟩ := h.dctE R; cases e; exact   .inr (.inr ⟨vs, s, by rw [isEmpty_kvs t]⟩)
  | ref n => cases e
  | fn _ _ => cases e
  | obj _ _ _ => cases e
def asT (f : FEx) : FTx := fun r => bnd (f r) fun d => fun S => opt (truD (vw S d)) S
theorem ft_val (ha : FE X EE a fa) (he : ∀ whole, isTrue a X.env whole = (do let v ← whole; standAt a.pos; holding [v] (truthy v)) := by intro _; rfl) : FT X EE a (asT fa) := by
  refine pt_weak (pt_truth ha he) fun s H Q ⟨r, G, A, S, hr, hR, q⟩ => ?_
  refine re_bnd hr hR q (fun _ _ z => z) fun G1 A1 H1 x d S1 a1 r1 R1 n1 q1 => ?_
  rw [post_opt] at q1
  obtain ⟨k, e, q1⟩ := q1
  exact ⟨k, tru_v R1 (R1.view n1) e, q1 G1 A1 H1 a1 R1⟩
/-! ## and, or, not -/
def tAnd2 (t u : FTx) : FTx := fun r => bnd (t r) fun k => if k = true then u r else ret false
def tOr2 (t u : FTx) : FTx := fun r => bnd (t r) fun k => if k = true then ret true else u r
def tNot1 (t : FTx) : FTx := fun r => bnd (t r) fun k => ret (!k)
theorem fw_and1 (ha : FT X EE a ta) : FW X EE (.BoolOp .And [a] pos) ta := pw_and1 ha
theorem fw_or1 (ha : FT X EE a ta) : FW X EE (.BoolOp .Or [a] pos) ta := pw_or1 ha
theorem fw_and (ha : FT X EE a ta) (hb : FW X EE (.BoolOp .And (b :: rest) pos) tb) : FW X EE (.BoolOp .And (a :: b :: rest) pos) (tAnd2 ta tb) := by
  refine pw_weak (pw_and ha hb) fun s H Q ⟨r, G, A, S, hr, hR, q⟩ => ?_
  refine rt_bnd hr hR q (fun _ _ z => z) fun G1 A1 H1 k S1 a1 r1 R1 q1 => ?_
  cases k with
  | true => exact iteT ⟨r, G1, A1, S1, r1, R1, post_on a1 q1 fun _ _ z => z.mono a1⟩
  | false => exact iteF (q1 G1 A1 H1 a1 R1)
theorem fw_or (ha : FT X EE a ta) (hb : FW X EE (.BoolOp .Or (b :: rest) pos) tb) : FW X EE (.BoolOp .Or (a :: b :: rest) pos) (tOr2 ta tb) := by
  refine pw_weak (pw_or ha hb) fun s H Q ⟨r, G, A, S, hr, hR, q⟩ => ?_
  refine rt_bnd hr hR q (fun _ _ z => z) fun G1 A1 H1 k S1 a1 r1 R1 q1 => ?_
  cases k with
  | true => exact iteT (q1 G1 A1 H1 a1 R1)
  | false => exact iteF ⟨r, G1, A1, S1, r1, R1, post_on a1 q1 fun _ _ z => z.mono a1⟩
theorem ft_not (ha : FT X EE a ta) : FT X EE (.UnaryOp .Not a pos) (tNot1 ta) := by
  refine pt_weak (pt_not ha) fun s H Q ⟨r, G, A, S, hr, hR, q⟩ => ?_
  refine rt_bnd hr hR q (fun _ _ z => z) fun G1 A1 H1 k S1 a1 r1 R1 q1 => ?_
  exact q1 G1 A1 H1 a1 R1
/-- as values -/
def eAnd2 (f g : FEx) : FEx := fun r => bnd (f r) fun d => bnd (fun S => opt (truD (vw S d)) S) fun k => if k = true then g r else ret d
def eOr2 (f g : FEx) : FEx := fun r => bnd (f r) fun d => bnd (fun S => opt (truD (vw S d)) S) fun k => if k = true then ret d else g r
def eNot1 (f : FEx) : FEx := fun r => bnd (f r) fun d => bnd (fun S => opt (truD (vw S d)) S) fun k => ret (.bl (!k))
theorem fe_one {op} (ha : FE X EE a fa) : FE X EE (.BoolOp op [a] pos) fa := pe_one ha
theorem fe_and (ha : FE X EE a fa) (hb : FE X EE (.BoolOp .And (b :: rest) pos) fb) : FE X EE (.BoolOp .And (a :: b :: rest) pos) (eAnd2 fa fb) := by
  refine pe_weak (pe_andT ha hb) fun s H Q ⟨r, G, A, S, hr, hR, q⟩ => ?_
  refine re_bnd hr hR q (fun _ _ z => z) fun G1 A1 H1 x d S1 a1 r1 R1 n1 q1 => ?_
  rw [post_bnd, post_opt] at q1
  obtain ⟨k, e, q1⟩ := q1
  refine ⟨k, tru_v R1 (R1.view n1) e, ?_⟩
  cases k with
  | true => exact iteT ⟨r, G1, A1, S1, r1, R1, post_on a1 q1 fun _ _ z => z.mono a1⟩
  | false => exact iteF (q1 G1 A1 H1 x a1 R1 n1)
theorem fe_not (ha : FE X EE a fa) : FE X EE (.UnaryOp .Not a pos) (eNot1 fa) := by
  refine pe_weak (pe_notT ha) fun s H Q ⟨r, G, A, S, hr, hR, q⟩ => ?_
  refine re_bnd hr hR q (fun _ _ z => z) fun G1 A1 H1 x d S1 a1 r1 R1 n1 q1 => ?_
  rw [post_bnd, post_opt] at q1
  obtain ⟨k, e, q1⟩ := q1
  exact ⟨k, tru_v R1 (R1.view n1) e, q1 G1 A1 H1 _ a1 R1 (.bl _)⟩
def eIf (t : FTx) (f g : FEx) : FEx := fun r => bnd (t r) fun k => if k = true then f r else g r
theorem fe_if (hc : FT X EE c ta) (ha : FE X EE a fa) (hb : FE X EE b fb) : FE X EE (.IfExp c a b pos) (eIf ta fa fb) := by
  refine pe_weak (pe_ifExp hc ha hb) fun s H Q ⟨r, G, A, S, hr, hR, q⟩ => ?_
  refine rt_bnd hr hR q (fun _ _ z => z) fun G1 A1 H1 k S1 a1 r1 R1 q1 => ?_
  cases k with
  | true => exact iteT ⟨r, G1, A1, S1, r1, R1, post_on a1 q1 fun _ _ z => z.mono a1⟩
  | false => exact iteF ⟨r, G1, A1, S1, r1, R1, post_on a1 q1 fun _ _ z => z.mono a1⟩
/-! ## one operand -/
def rD1 (K : PySem.W.Frag) (g : D → Option D) : V → Hp → VK → Prop := fun x H Q => ∃ G A S d z, Rel K A S G H ∧ Dv K G A H x d ∧ g d = some z ∧ ∀ G' H' v, Ex A G H A G' H' → Rel K A S G' H' → Dn K G' A v z → Q v H'
def eUn (g : D → Option D) (f : FEx) : FEx := fun r => bnd (f r) fun x => fun S => opt (g (vw S x)) S
theorem fe_un {op : UnaryOp} {g : D → Option D} (ho : UnR X (unaryOp op) (rD1 X.K g)) (ha : FE X EE a fa) : FE X EE (.UnaryOp op a pos) (eUn g fa) := by
  refine pe_weak (pe_un ho ha) fun s H Q ⟨r, G, A, S, hr, hR, q⟩ => ?_
  refine re_bnd hr hR q (fun _ _ z => z) fun G1 A1 H1 x d S1 a1 r1 R1 n1 q1 => ?_
  rw [post_opt] at q1
  obtain ⟨z, e, q1⟩ := q1
  exact ⟨G1, A1, S1, _, z, R1, R1.view n1, e, fun G3 H3 v a3 R3 n3 => q1 G3 A1 H3 v (a1.trans a3) R3 n3⟩
/-! ## argument lists, displays -/
variable {e : Expr} {es : List Expr} {fe : FEx} {fs : FAx}
def aNil : FAx := fun _ => ret []
def aCons (f : FEx) (g : FAx) : FAx := fun r => bnd (f r) fun x => bnd (g r) fun xs => ret (x :: xs)
theorem fa_nil : FA X EE [] aNil := by
  refine pa_weak pa_nil fun s H Q ⟨r, G, A, S, hr, hR, q⟩ => ?_
  exact q G A H [] Ex.refl hR .nil
theorem fa_cons (ha : FE X EE e fe) (hr : FA X EE es fs) (hs : starEach (e :: es) X.env = (false, eval e X.env) :: starEach es X.env := by rfl) : FA X EE (e :: es) (aCons fe fs) := by
  refine pa_weak (pa_cons ha hr hs) fun s H Q ⟨r, G, A, S, hr, hR, q⟩ => ?_
  refine re_bnd hr hR q (fun _ _ z => z) fun G1 A1 H1 x d S1 a1 r1 R1 n1 q1 => ?_
  refine ra_bnd r1 R1 q1 (fun _ _ z => z.mono a1) fun G2 A2 H2 y e S2 a2 r2 R2 n2 q2 => ?_
  exact q2 G2 A2 H2 _ (a1.trans a2) R2 (.cons (n1.mono a2.g a2.p) n2)
def few {α : Type} (xs : List α) : Option (List α) := if xs.length ≤ 1000000 then some xs else none
theorem few_eq {α : Type} {xs ys : List α} (h : few xs = some ys) : xs = ys ∧ xs.length ≤ sizeLine := by
  unfold few at h
  split at h
  · rename_i hl; cases h; exact ⟨rfl, small_line hl⟩
  · cases h
def eTup (g : FAx) : FEx := fun r => bnd (g r) fun xs => bnd (opt (few xs)) fun ys => ret (.tup ys)
def eLst (g : FAx) : FEx := fun r => bnd (g r) fun xs => bnd (opt (few xs)) fun ys => ret (.lst ys)
/-- a list that will change -/
def eNewL (g : FAx) : FEx := fun r => bnd (g r) fun xs => bnd (opt (few xs)) fun ys => fun S => .ok (.ref S.length) (S ++ [.lst ys])
theorem fe_tup {x1} (h : FA X EE es fs) : FE X EE (.Tuple es x1 pos) (eTup fs) := by
  refine pe_weak (pe_tupF h) fun s H Q ⟨r, G, A, S, hr, hR, q⟩ => ?_
  refine ra_bnd hr hR q (fun _ _ z => z) fun G1 A1 H1 x d S1 a1 r1 R1 n1 q1 => ?_
  rw [post_bnd, post_opt] at q1
  obtain ⟨ys, e, q1⟩ := q1
  obtain ⟨rfl, hl⟩ := few_eq e
  refine ⟨by rw [n1.length]; exact hl, fun p us hp => ?_⟩
  have ee := R1.exNew hp (.frz (tupO us) (.tup x))
  exact q1 _ A1 _ _ (a1.trans ee) (R1.new hp _) (.tup (.inl ⟨us, upd_same⟩) (n1.mono ee.g ee.p))
theorem fe_lst (h : FA X EE es fs) : FE X EE (.List es pos) (eLst fs) := by
  refine pe_weak (pe_lst h) fun s H Q ⟨r, G, A, S, hr, hR, q⟩ => ?_
  refine ra_bnd hr hR q (fun _ _ z => z) fun G1 A1 H1 x d S1 a1 r1 R1 n1 q1 => ?_
  rw [post_bnd, post_opt] at q1
  obtain ⟨ys, e, q1⟩ := q1
  obtain ⟨rfl, hl⟩ := few_eq e
  refine ⟨by rw [n1.length]; exact hl, fun p hp => ?_⟩
  have ee := R1.exNew hp (.lst x)
  exact q1 _ A1 _ _ (a1.trans ee) (R1.new hp _) (.lst (.inl (.of upd_same)) (n1.mono ee.g ee.p))
theorem fe_newL (h : FA X EE es fs) : FE X EE (.List es pos) (eNewL fs) := by
  refine pe_weak (pe_lst h) fun s H Q ⟨r, G, A, S, hr, hR, q⟩ => ?_
  refine ra_bnd hr hR q (fun _ _ z => z) fun G1 A1 H1 x d S1 a1 r1 R1 n1 q1 => ?_
  rw [post_bnd, post_opt] at q1
  obtain ⟨ys, e, q1⟩ := q1
  obtain ⟨rfl, hl⟩ := few_eq e
  refine ⟨by rw [n1.length]; exact hl, fun p hp => ?_⟩
  have R2 : Rel X.K (A1 ++ [p]) (S1 ++ [.lst d]) G1 (upd H1 p (.lst x)) := R1.alloc hp ⟨x, upd_same, n1.mono (Same.refl _) (Pre.app _ _)⟩
  refine q1 G1 (A1 ++ [p]) _ _ (a1.trans (R1.exAlloc hp _)) R2 (.ref ?_)
  rw [← R1.len]
  simp
/-! ## built-ins by values -/
inductive DvAll (K : PySem.W.Frag) (G : Hp) (A : List Addr) (H : Hp) : List V → List D → Prop
  | nil : DvAll K G A H [] []
  | cons {v : V} {vs : List V} {d : D} {ds : List D} : Dv K G A H v d → DvAll K G A H vs ds → DvAll K G A H (v :: vs) (d :: ds)
theorem Rel.views {K : PySem.W.Frag} {G H : Hp} {A : List Addr} {S : Sto} (q : Rel K A S G H) : ∀ {vs : List V} {ds : List D}, DnAll K G A vs ds → DvAll K G A H vs (ds.map (vw S))
  | _, _, .nil => .nil
  | _, _, .cons a b => .cons (q.view a) (q.views b)
def rDs (K : PySem.W.Frag) (g : List D → Option D) : List V → Hp → VK → Prop := fun xs H Q => ∃ G A S ds z, Rel K A S G H ∧ DvAll K G A H xs ds ∧ g ds = some z ∧ ∀ G' H' v, Ex A G H A G' H' → Rel K A S G' H' → Dn K G' A v z → Q v H'
def eCallP (g : List D → Option D) (f : FAx) : FEx := fun r => bnd (f r) fun xs => fun S => opt (g (xs.map (vw S))) S
theorem to_callp {g : List D → Option D} : ∀ s H Q, RE X EE (eCallP g fs) s H Q → tCB (rDs X.K g) (RA X EE fs) s H Q := by
  intro s H Q ⟨r, G, A, S, hr, hR, q⟩
  refine ra_bnd hr hR q (fun _ _ z => z) fun G1 A1 H1 x d S1 a1 r1 R1 n1 q1 => ?_
  rw [post_opt] at q1
  obtain ⟨z, e, q1⟩ := q1
  exact ⟨G1, A1, S1, _, z, R1, R1.views n1, e, fun G3 H3 v a3 R3 n3 => q1 G3 A1 H3 v (a1.trans a3) R3 n3⟩
theorem fe_callB {x : Str} {p : Pos} {id : String} {g : List D → Option D} (hc : CallR X (.builtin id) (rDs X.K g)) (hg : Gl X x) (hm : X.mg x = none) (hv : bootBuiltins x = some (.builtin id)) (ha : FA X EE (e :: es) fs) (hn : x ≠ "__name__" := by decide) (hdb : (x == ("__debug__" : Str)) = false := by decide)
    (he : starEach (e :: es) X.env = (false, eval e X.env) :: starEach es X.env := by rfl) (hpl : (backTo pos (starEach es X.env)).any (·.1) = false := by rfl) : FE X EE (.Call (.Name x p) (e :: es) [] pos) (eCallP g fs) :=
  pe_weak (pe_callB hc hg hm hv ha hn hdb he hpl) to_callp
theorem fe_callTy {x : Str} {p : Pos} {T : String} {g : List D → Option D} (hc : CallR X (.type T) (rDs X.K g)) (hg : Gl X x) (hm : X.mg x = none) (hv : bootBuiltins x = some (.type T)) (ha : FA X EE (e :: es) fs) (hn : x ≠ "__name__" := by decide) (hdb : (x == ("__debug__" : Str)) = false := by decide)
    (he : starEach (e :: es) X.env = (false, eval e X.env) :: starEach es X.env := by rfl) (hpl : (backTo pos (starEach es X.env)).any (·.1) = false := by rfl) : FE X EE (.Call (.Name x p) (e :: es) [] pos) (eCallP g fs) :=
  pe_weak (pe_callTy hc hg hm hv ha hn hdb he hpl) to_callp
end
end FL
end
section
set_option Elab.async false
set_option linter.all false
set_option maxRecDepth 100000
set_option autoImplicit false
namespace FL
open PySem PySem.Spec PyProof.Rows L2
/-! ## looking at data -/
def D.int? : D → Option Int
  | .int i => some i
  | _ => none
def D.str? : D → Option Str
  | .str i => some i
  | _ => none
def D.lst? : D → Option (List D)
  | .lst i => some i
  | _ => none
def D.tup? : D → Option (List D)
  | .tup i => some i
  | _ => none
def D.dct? : D → Option (List (Key × D))
  | .dct i => some i
  | _ => none
def D.bl? : D → Option Bool
  | .bl i => some i
  | _ => none
theorem D.int?_eq {d : D} {i : Int} (h : d.int? = some i) : d = .int i := by cases d <;> first | (cases h; rfl) | cases h
theorem D.str?_eq {d : D} {i : Str} (h : d.str? = some i) : d = .str i := by cases d <;> first | (cases h; rfl) | cases h
theorem D.lst?_eq {d : D} {i : List D} (h : d.lst? = some i) : d = .lst i := by cases d <;> first | (cases h; rfl) | cases h
theorem D.tup?_eq {d : D} {i : List D} (h : d.tup? = some i) : d = .tup i := by cases d <;> first | (cases h; rfl) | cases h
theorem D.dct?_eq {d : D} {i : List (Key × D)} (h : d.dct? = some i) : d = .dct i := by cases d <;> first | (cases h; rfl) | cases h
theorem D.bl?_eq {d : D} {i : Bool} (h : d.bl? = some i) : d = .bl i := by cases d <;> first | (cases h; rfl) | cases h
def on1 {α β : Type} (f : D → Option α) (d : D) (k : α → Option β) : Option β := match f d with
  | some a => k a
  | none => none
def on2 {α β γ : Type} (f : D → Option α) (g : D → Option β) (d e : D) (k : α → β → Option γ) : Option γ := match f d with
  | some a => match g e with
    | some b => k a b
    | none => none
  | none => none
def alt {α : Type} : Option α → Option α → Option α
  | some a, _ => some a
  | none, b => b
theorem on1_eq {α β : Type} {f : D → Option α} {d : D} {k : α → Option β} {z : β} (h : on1 f d k = some z) : ∃ a, f d = some a ∧ k a = some z := by
  unfold on1 at h
  cases e : f d with
  | none => rw [e] at h; cases h
  | some a => rw [e] at h; exact ⟨a, rfl, h⟩
theorem on2_eq {α β γ : Type} {f : D → Option α} {g : D → Option β} {d e : D} {k : α → β → Option γ} {z : γ} (h : on2 f g d e k = some z) : ∃ a b, f d = some a ∧ g e = some b ∧ k a b = some z := by
  unfold on2 at h
  cases e1 : f d with
  | none => rw [e1] at h; cases h
  | some a =>
    cases e2 : g e with
    | none => rw [e1, e2] at h; cases h
    | some b => rw [e1, e2] at h; exact ⟨a, b, rfl, rfl, h⟩
theorem alt_eq {α : Type} {a b : Option α} {z : α} (h : alt a b = some z) : a = some z ∨ b = some z := by
  cases a with
  | none => exact .inr h
  | some x => exact .inl h
/-! ## plain data -/
mutual
def toPy : D → Option PyData
  | .non => some .none
  | .bl b => some (.bool b)
  | .int i => some (.int i)
  | .str x => some (.str x)
  | .lst xs => (toPys xs).map .list
  | .tup xs => (toPys xs).map .tuple
  | .dct _ => none
  | .ref _ => none
  | .fn _ _ => none
  | .obj _ _ _ => none
def toPys : List D → Option (List PyData)
  | [] => some []
  | d :: ds => match toPy d, toPys ds with
    | some p, some ps => some (p :: ps)
    | _, _ => none
end
section
variable {K : PySem.W.Frag} {G H : Hp} {A : List Addr} {S : Sto}
mutual
theorem dn_dp (e : Same G H) : ∀ (d : D) (v : V) (p : PyData), Dn K G A v d → toPy d = some p → Dp K H v p ∧ p.canLay0 = true
  | .non, _, _, h, q => by cases h; cases q; exact ⟨.non, rfl⟩
  | .bl b, _, _, h, q => by cases h; cases q; exact ⟨.bl b, rfl⟩
  | .int i, _, _, h, q => by cases h; cases q; exact ⟨.int i, rfl⟩
  | .str x, _, _, h, q => by cases h with | str _ o => cases q; exact ⟨.str x, o⟩
  | .lst ds, _, p, h, q => by
    cases h with
    | lst s t =>
      simp only [toPy] at q
      cases hp : toPys ds with
      | none => rw [hp] at q; cases q
      | some ps =>
        rw [hp] at q; cases q
        obtain ⟨h1, h2⟩ := dn_dps e ds _ ps t hp
        exact ⟨.lst (sql_same e s).sq h1, h2⟩
  | .tup ds, _, p, h, q => by
    cases h with
    | tup s t =>
      simp only [toPy] at q
      cases hp : toPys ds with
      | none => rw [hp] at q; cases q
      | some ps =>
        rw [hp] at q; cases q
        obtain ⟨h1, h2⟩ := dn_dps e ds _ ps t hp
        exact ⟨.tup (s.same e).sq h1, h2⟩
  | .dct _, _, _, _, q => by cases q
  | .ref _, _, _, _, q => by cases q
  | .fn _ _, _, _, _, q => by cases q
  | .obj _ _ _, _, _, _, q => by cases q
theorem dn_dps (e : Same G H) : ∀ (ds : List D) (vs : List V) (ps : List PyData), DnAll K G A vs ds → toPys ds = some ps → DpAll K H vs ps ∧ PyData.canLayAll0 ps = true
  | [], _, _, h, q => by cases h; cases q; exact ⟨.nil, rfl⟩
  | d :: ds, _, ps, h, q => by
    cases h with
    | cons a b =>
      simp only [toPys] at q
      cases h1 : toPy d with
      | none => rw [h1] at q; cases q
      | some p =>
        cases h2 : toPys ds with
        | none => rw [h1, h2] at q; cases q
        | some r =>
          rw [h1, h2] at q; cases q
          obtain ⟨x1, x2⟩ := dn_dp e d _ p a h1
          obtain ⟨y1, y2⟩ := dn_dps e ds _ r b h2
          exact ⟨.cons x1 y1, by simp [PyData.canLayAll0, x2, y2]⟩
end
theorem dv_dp (R : Rel K A S G H) {d : D} {v : V} {p : PyData} (h : Dv K G A H v d) (q : toPy d = some p) : Dp K H v p ∧ p.canLay0 = true := by
  cases h with
  | of h => exact dn_dp R.sub d v p h q
  | @lst a vs ds e t =>
    simp only [toPy] at q
    cases hp : toPys ds with
    | none => rw [hp] at q; cases q
    | some ps =>
      rw [hp] at q; cases q
      obtain ⟨h1, h2⟩ := dn_dps R.sub ds _ ps t hp
      exact ⟨.lst (.of e) h1, h2⟩
  | dct e t => cases q
end
/-- plain data of small depth -/
def pyD (d : D) : Option PyData := (toPy d).bind fun p => if p.depth ≤ 64 then some p else none
theorem pyD_eq {d : D} {p : PyData} (h : pyD d = some p) : toPy d = some p ∧ p.depth ≤ 64 := by
  unfold pyD at h
  cases e : toPy d with
  | none => rw [e] at h; cases h
  | some q =>
    rw [e] at h
    simp only [Option.bind_some] at h
    split at h
    · rename_i hd; cases h; exact ⟨rfl, hd⟩
    · cases h
theorem dv_shaped {K : PySem.W.Frag} {G H : Hp} {A : List Addr} {S : Sto} (R : Rel K A S G H) {d : D} {v : V} {p : PyData} (h : Dv K G A H v d) (q : pyD d = some p) : Dp K H v p ∧ SeqAt.shaped p = true := by
  obtain ⟨e, hd⟩ := pyD_eq q
  obtain ⟨a, b⟩ := dv_dp R h e
  exact ⟨a, by simp [SeqAt.shaped, b, hd]⟩
section
variable {X : Cx}
/-! ## arithmetic -/
def small64 (i : Int) : Bool := decide (-(2 ^ 64) < i) && decide (i < 2 ^ 64)
theorem small64_eq {i : Int} (h : small64 i = true) : -(2 ^ 64) < i ∧ i < 2 ^ 64 := by
  unfold small64 at h
  simp at h
  exact h
theorem strOk_app {x y : Str} (h : PyData.strOk x = true) (k : PyData.strOk y = true) : PyData.strOk (x ++ y) = true := by
  unfold PyData.strOk at *
  rw [Array.all_eq_true'] at *
  intro c hc
  have hc : c ∈ x.cps ++ y.cps := hc
  rcases Array.mem_append.mp hc with q | q
  · exact h c q
  · exact k c q
def addD (d e : D) : Option D := alt (on2 D.int? D.int? d e fun i j => some (.int (i + j)))
  (alt (on2 D.str? D.str? d e fun x y => cap (x.length + y.length) (.str (x ++ y)))
  (alt (on2 D.lst? D.lst? d e fun xs ys => cap (xs.length + ys.length) (.lst (xs ++ ys)))
  (on2 D.tup? D.tup? d e fun xs ys => cap (xs.length + ys.length) (.tup (xs ++ ys)))))
theorem rd_lst {pins : List (Addr × Obj)} {s : Shared} {σ : L2.St} {H : Hp} {l : Addr} {xs : List V} (I : Inv X pins σ H s) (h : LAt X.K H l xs) :
    xs.length ≤ sizeLine ∧ ∃ (its : List Value) (n : Nat), Vals xs its ∧ xs.length = its.length ∧ s.heap.get? l = some { cls := .type "list", data := .seq its.toArray n } := by
  rcases h with h | ⟨its, n, h1, h2, h3⟩
  · obtain ⟨z, its, n, r, e⟩ := h.ok I.hok
    exact ⟨z, its, n, r, r.length, e⟩
  · refine ⟨?_, its.toList, n, h3, h3.length, I.kIn _ _ h1⟩
    rw [h3.length, Array.length_toList]
    exact h2
def rCatR (K : PySem.W.Frag) : R2 := fun x y H Q => ∃ l b xs zs, x = .ref l ∧ y = .ref b ∧ LAt K H l xs ∧ LAt K H b zs ∧ xs.length + zs.length ≤ sizeLine ∧ ∀ p, H p = none → Q (.ref p) (upd H p (.lst (xs ++ zs)))
theorem op_catR : OpR X (binaryOp .Add) (rCatR X.K) := by
  intro pins s σ H x y v u Q I rx ry ⟨l, b, xs, zs, ex, ey, hH, hB, hz, q⟩
  subst ex ey
  cases rx
  cases ry
  obtain ⟨z, its, n, r, hl, e⟩ := rd_lst I hH
  obtain ⟨z2, its2, n2, r2, hl2, e2⟩ := rd_lst I hB
  refine PySem.P.add_list e e2 ?_ (by rw [List.size_toArray, List.size_toArray]; omega)
  rw [show its.toArray ++ its2.toArray = (its ++ its2).toArray by simp]
  exact ⟨.ref _, _, I.lnew (t' := s.toks) (r.append r2) (by rw [List.length_append]; omega), rfl, q _ I.fresh⟩
/-- a new list, a new tuple of such things -/
theorem new_lst {K : PySem.W.Frag} {G H : Hp} {A : List Addr} {S : Sto} {vs : List V} {ds : List D} {p : Addr} {Q : VK} (R : Rel K A S G H) (t : DnAll K G A vs ds) (hp : H p = none)
    (q : ∀ G' H' v, Ex A G H A G' H' → Rel K A S G' H' → Dn K G' A v (.lst ds) → Q v H') : Q (.ref p) (upd H p (.lst vs)) :=
  q (upd G p (.lst vs)) _ _ (R.exNew hp _) (R.new hp _) (.lst (.inl (.of upd_same)) (t.mono (upd_same_of (R.free hp)) (Pre.refl _)))
theorem new_tup {K : PySem.W.Frag} {G H : Hp} {A : List Addr} {S : Sto} {vs : List V} {ds : List D} {Q : VK} (R : Rel K A S G H) (t : DnAll K G A vs ds)
    (q : ∀ G' H' v, Ex A G H A G' H' → Rel K A S G' H' → Dn K G' A v (.tup ds) → Q v H') : rNewT vs H Q := fun p us hp =>
  q (upd G p _) _ _ (R.exNew hp _) (R.new hp _) (.tup (.inl ⟨us, upd_same⟩) (t.mono (upd_same_of (R.free hp)) (Pre.refl _)))
/-- a tuple that stands already -/
theorem Dv.tupN {K : PySem.W.Frag} {G H : Hp} {A : List Addr} {v : V} {ds : List D} (h : Dv K G A H v (.tup ds)) : Dn K G A v (.tup ds) := by
  cases h with | of h => exact h
theorem op_addD : OpR X (binaryOp .Add) (rD2 X.K addD) := by
  intro pins s σ H x y v u Q I rx ry ⟨G, A, S, d, e, z, R, hd, he, hg, q⟩
  rcases alt_eq hg with hg | hg
  · obtain ⟨i, j, h1, h2, hg⟩ := on2_eq hg
    cases D.int?_eq h1
    cases D.int?_eq h2
    cases hg
    exact op_add pins s σ H x y v u Q I rx ry ⟨i, j, hd.intE, he.intE, q G H _ Ex.refl R (.int _)⟩
  rcases alt_eq hg with hg | hg
  · obtain ⟨i, j, h1, h2, hg⟩ := on2_eq hg
    cases D.str?_eq h1
    cases D.str?_eq h2
    obtain ⟨e1, o1⟩ := hd.strE
    obtain ⟨e2, o2⟩ := he.strE
    obtain ⟨rfl, hl⟩ := cap_eq hg
    exact op_add_str pins s σ H x y v u Q I rx ry ⟨i, j, e1, e2, small_line hl, q G H _ Ex.refl R (.str _ (strOk_app o1 o2))⟩
  rcases alt_eq hg with hg | hg
  · obtain ⟨xs, ys, h1, h2, hg⟩ := on2_eq hg
    cases D.lst?_eq h1
    cases D.lst?_eq h2
    obtain ⟨rfl, hl⟩ := cap_eq hg
    obtain ⟨a, vs, e1, s1, t1⟩ := hd.lstE R
    obtain ⟨b, ws, e2, s2, t2⟩ := he.lstE R
    exact op_catR pins s σ H x y v u Q I rx ry ⟨a, b, vs, ws, e1, e2, s1, s2, by rw [t1.length, t2.length]; exact small_line hl, fun p hp => new_lst R (t1.append t2) hp q⟩
  · obtain ⟨xs, ys, h1, h2, hg⟩ := on2_eq hg
    cases D.tup?_eq h1
    cases D.tup?_eq h2
    obtain ⟨rfl, hl⟩ := cap_eq hg
    obtain ⟨a, vs, e1, s1, t1⟩ := hd.tupE R
    obtain ⟨b, ws, e2, s2, t2⟩ := he.tupE R
    refine op_catF pins s σ H x y v u Q I rx ry ⟨a, b, vs, ws, e1, e2, s1.sq, s2.sq, by rw [t1.length, t2.length]; exact small_line hl, fun e0 => ?_, fun _ e0 => ?_, fun _ _ => new_tup R (t1.append t2) q⟩
    · subst e0
      cases t1
      rw [← e2]
      exact q G H _ Ex.refl R he.tupN
    · subst e0
      cases t2
      rw [← e1]
      refine q G H _ Ex.refl R ?_
      rw [List.append_nil]
      exact hd.tupN
def guard' {α : Type} (b : Bool) (a : α) : Option α := if b = true then some a else none
theorem guard_eq {α : Type} {b : Bool} {a c : α} (h : guard' b a = some c) : a = c ∧ b = true := by
  unfold guard' at h
  split at h
  · rename_i hb; cases h; exact ⟨rfl, hb⟩
  · cases h
/-- two ints by a rule -/
def ii (c : Int → Int → Bool) (f : Int → Int → D) (d e : D) : Option D := on2 D.int? D.int? d e fun i j => guard' (c i j) (f i j)
theorem ii_eq {c : Int → Int → Bool} {f : Int → Int → D} {d e z : D} (h : ii c f d e = some z) : ∃ i j, d = .int i ∧ e = .int j ∧ c i j = true ∧ z = f i j := by
  obtain ⟨i, j, h1, h2, hg⟩ := on2_eq h
  obtain ⟨e, hc⟩ := guard_eq hg
  exact ⟨i, j, D.int?_eq h1, D.int?_eq h2, hc, e.symm⟩
def subD : D → D → Option D := ii (fun _ _ => true) fun i j => .int (i - j)
theorem op_subD : OpR X (binaryOp .Sub) (rD2 X.K subD) := by
  intro pins s σ H x y v u Q I rx ry ⟨G, A, S, d, e, z, R, hd, he, hg, q⟩
  obtain ⟨i, j, rfl, rfl, _, rfl⟩ := ii_eq hg
  exact op_sub pins s σ H x y v u Q I rx ry ⟨i, j, hd.intE, he.intE, q G H _ Ex.refl R (.int _)⟩
def modD : D → D → Option D := ii (fun _ j => decide (0 < j)) fun i j => .int (i % j)
theorem op_modD : OpR X (binaryOp .Mod) (rD2 X.K modD) := by
  intro pins s σ H x y v u Q I rx ry ⟨G, A, S, d, e, z, R, hd, he, hg, q⟩
  obtain ⟨i, j, rfl, rfl, hc, rfl⟩ := ii_eq hg
  exact op_mod pins s σ H x y v u Q I rx ry ⟨i, j, hd.intE, he.intE, of_decide_eq_true hc, q G H _ Ex.refl R (.int _)⟩
def fdivD : D → D → Option D := ii (fun _ j => decide (0 < j ∧ j < 1073741824)) fun i j => .int (i / j)
theorem op_fdivD : OpR X (binaryOp .FloorDiv) (rD2 X.K fdivD) := by
  intro pins s σ H x y v u Q I rx ry ⟨G, A, S, d, e, z, R, hd, he, hg, q⟩
  obtain ⟨i, j, rfl, rfl, hc, rfl⟩ := ii_eq hg
  exact op_fdiv pins s σ H x y v u Q I rx ry ⟨i, j, hd.intE, he.intE, (of_decide_eq_true hc : 0 < j ∧ j < 1073741824), q G H _ Ex.refl R (.int _)⟩
def powD : D → D → Option D := ii (fun i j => decide (0 ≤ j ∧ j ≤ 1000 ∧ i.natAbs < 18446744073709551616)) fun i j => .int (i ^ j.toNat)
theorem op_powD : OpR X (binaryOp .Pow) (rD2 X.K powD) := by
  intro pins s σ H x y v u Q I rx ry ⟨G, A, S, d, e, z, R, hd, he, hg, q⟩
  obtain ⟨i, j, rfl, rfl, hc, rfl⟩ := ii_eq hg
  obtain ⟨h1, h2, h3⟩ := of_decide_eq_true hc
  exact op_pow pins s σ H x y v u Q I rx ry ⟨i, j, hd.intE, he.intE, ⟨h1, by omega, h3⟩, q G H _ Ex.refl R (.int _)⟩
def negD (d : D) : Option D := on1 D.int? d fun i => some (.int (-i))
theorem un_negD : UnR X (unaryOp .USub) (rD1 X.K negD) := by
  intro pins s σ H x v Q I rx ⟨G, A, S, d, z, R, hd, hg, q⟩
  obtain ⟨i, h1, hg⟩ := on1_eq hg
  cases D.int?_eq h1
  cases hg
  exact un_neg pins s σ H x v Q I rx ⟨i, hd.intE, q G H _ Ex.refl R (.int _)⟩
/-! ## comparisons -/
def eqD : D → D → Option D := fun d e => match pyD d, pyD e with
  | some p, some r => some (.bl (PyData.eqv p r))
  | _, _ => none
def neD : D → D → Option D := fun d e => match pyD d, pyD e with
  | some p, some r => some (.bl (!PyData.eqv p r))
  | _, _ => none
theorem op_eqDD (hu : X.A.units + 64 < cLine) : OpR X (compareOp .Eq) (rD2 X.K eqD) := by
  intro pins s σ H x y v u Q I rx ry ⟨G, A, S, d, e, z, R, hd, he, hg, q⟩
  unfold eqD at hg
  cases h1 : pyD d with
  | none => rw [h1] at hg; cases hg
  | some p =>
    cases h2 : pyD e with
    | none => rw [h1, h2] at hg; cases hg
    | some r =>
      rw [h1, h2] at hg; cases hg
      obtain ⟨a1, b1⟩ := dv_shaped R hd h1
      obtain ⟨a2, b2⟩ := dv_shaped R he h2
      exact op_eqD hu pins s σ H x y v u Q I rx ry ⟨p, r, a1, a2, b1, b2, q G H _ Ex.refl R (.bl _)⟩
theorem op_neDD (hu : X.A.units + 64 < cLine) : OpR X (compareOp .NotEq) (rD2 X.K neD) := by
  intro pins s σ H x y v u Q I rx ry ⟨G, A, S, d, e, z, R, hd, he, hg, q⟩
  unfold neD at hg
  cases h1 : pyD d with
  | none => rw [h1] at hg; cases hg
  | some p =>
    cases h2 : pyD e with
    | none => rw [h1, h2] at hg; cases hg
    | some r =>
      rw [h1, h2] at hg; cases hg
      obtain ⟨a1, b1⟩ := dv_shaped R hd h1
      obtain ⟨a2, b2⟩ := dv_shaped R he h2
      exact op_neD hu pins s σ H x y v u Q I rx ry ⟨p, r, a1, a2, b1, b2, q G H _ Ex.refl R (.bl _)⟩
def ltD (d e : D) : Option D := alt (on2 D.int? D.int? d e fun i j => some (.bl (decide (i < j)))) (on2 D.str? D.str? d e fun i j => some (.bl (decide (i.cps.toList < j.cps.toList))))
theorem op_ltD : OpR X (compareOp .Lt) (rD2 X.K ltD) := by
  intro pins s σ H x y v u Q I rx ry ⟨G, A, S, d, e, z, R, hd, he, hg, q⟩
  rcases alt_eq hg with hg | hg
  · obtain ⟨i, j, h1, h2, hg⟩ := on2_eq hg
    cases D.int?_eq h1
    cases D.int?_eq h2
    cases hg
    exact op_lt pins s σ H x y v u Q I rx ry ⟨i, j, hd.intE, he.intE, q G H _ Ex.refl R (.bl _)⟩
  · obtain ⟨i, j, h1, h2, hg⟩ := on2_eq hg
    cases D.str?_eq h1
    cases D.str?_eq h2
    cases hg
    exact op_lt_str pins s σ H x y v u Q I rx ry ⟨i, j, hd.strE.1, he.strE.1, q G H _ Ex.refl R (.bl _)⟩
def leD (d e : D) : Option D := alt (on2 D.int? D.int? d e fun i j => some (.bl (decide (i ≤ j)))) (on2 D.str? D.str? d e fun i j => some (.bl (!decide (j.cps.toList < i.cps.toList))))
theorem op_leD : OpR X (compareOp .LtE) (rD2 X.K leD) := by
  intro pins s σ H x y v u Q I rx ry ⟨G, A, S, d, e, z, R, hd, he, hg, q⟩
  rcases alt_eq hg with hg | hg
  · obtain ⟨i, j, h1, h2, hg⟩ := on2_eq hg
    cases D.int?_eq h1
    cases D.int?_eq h2
    cases hg
    exact op_le pins s σ H x y v u Q I rx ry ⟨i, j, hd.intE, he.intE, q G H _ Ex.refl R (.bl _)⟩
  · obtain ⟨i, j, h1, h2, hg⟩ := on2_eq hg
    cases D.str?_eq h1
    cases D.str?_eq h2
    cases hg
    exact op_le_str pins s σ H x y v u Q I rx ry ⟨i, j, hd.strE.1, he.strE.1, q G H _ Ex.refl R (.bl _)⟩
def gtD (d e : D) : Option D := alt (on2 D.int? D.int? d e fun i j => some (.bl (decide (j < i)))) (on2 D.str? D.str? d e fun i j => some (.bl (decide (j.cps.toList < i.cps.toList))))
theorem op_gtD : OpR X (compareOp .Gt) (rD2 X.K gtD) := by
  intro pins s σ H x y v u Q I rx ry ⟨G, A, S, d, e, z, R, hd, he, hg, q⟩
  rcases alt_eq hg with hg | hg
  · obtain ⟨i, j, h1, h2, hg⟩ := on2_eq hg
    cases D.int?_eq h1
    cases D.int?_eq h2
    cases hg
    exact op_gt pins s σ H x y v u Q I rx ry ⟨i, j, hd.intE, he.intE, q G H _ Ex.refl R (.bl _)⟩
  · obtain ⟨i, j, h1, h2, hg⟩ := on2_eq hg
    cases D.str?_eq h1
    cases D.str?_eq h2
    cases hg
    exact op_gt_str pins s σ H x y v u Q I rx ry ⟨i, j, hd.strE.1, he.strE.1, q G H _ Ex.refl R (.bl _)⟩
def geD (d e : D) : Option D := alt (on2 D.int? D.int? d e fun i j => some (.bl (decide (j ≤ i)))) (on2 D.str? D.str? d e fun i j => some (.bl (!decide (i.cps.toList < j.cps.toList))))
theorem op_geD : OpR X (compareOp .GtE) (rD2 X.K geD) := by
  intro pins s σ H x y v u Q I rx ry ⟨G, A, S, d, e, z, R, hd, he, hg, q⟩
  rcases alt_eq hg with hg | hg
  · obtain ⟨i, j, h1, h2, hg⟩ := on2_eq hg
    cases D.int?_eq h1
    cases D.int?_eq h2
    cases hg
    exact op_ge pins s σ H x y v u Q I rx ry ⟨i, j, hd.intE, he.intE, q G H _ Ex.refl R (.bl _)⟩
  · obtain ⟨i, j, h1, h2, hg⟩ := on2_eq hg
    cases D.str?_eq h1
    cases D.str?_eq h2
    cases hg
    exact op_ge_str pins s σ H x y v u Q I rx ry ⟨i, j, hd.strE.1, he.strE.1, q G H _ Ex.refl R (.bl _)⟩
/-- is None -/
def D.non? : D → Bool
  | .non => true
  | _ => false
def isND (d e : D) : Option D := guard' e.non? (.bl d.non?)
def isNND (d e : D) : Option D := guard' e.non? (.bl (!d.non?))
end
end FL
end
section
set_option Elab.async false
set_option linter.all false
set_option maxRecDepth 100000
set_option autoImplicit false
set_option maxHeartbeats 2000000
namespace FL
open PySem PySem.Spec PyProof.Rows L2
section
variable {X : Cx}
theorem DnAll.rep {K : PySem.W.Frag} {G : Hp} {A : List Addr} {vs : List V} {ds : List D} (h : DnAll K G A vs ds) : ∀ k : Nat, DnAll K G A (List.replicate k vs).flatten (List.replicate k ds).flatten
  | 0 => .nil
  | k + 1 => by
    rw [List.replicate_succ, List.replicate_succ, List.flatten_cons, List.flatten_cons]
    exact h.append (DnAll.rep h k)
def mulD (d e : D) : Option D := alt (ii (fun i j => small64 i || small64 j) (fun i j => .int (i * j)) d e)
  (alt (on2 D.tup? D.int? d e fun xs k => guard' (decide (xs ≠ [] ∧ xs.length ≤ 1000 ∧ -1000 ≤ k ∧ k ≤ 1000)) (.tup (List.replicate k.toNat xs).flatten))
  (on2 D.lst? D.int? d e fun xs k => guard' (decide (xs.length ≤ 1000 ∧ -1000 ≤ k ∧ k ≤ 1000)) (.lst (List.replicate k.toNat xs).flatten)))
def rRepR (K : PySem.W.Frag) : R2 := fun x y H Q => ∃ l k xs, x = .ref l ∧ y = .int k ∧ LAt K H l xs ∧ -1000 ≤ k ∧ k ≤ 1000 ∧ xs.length ≤ 1000 ∧ ∀ p, H p = none → Q (.ref p) (upd H p (.lst (List.replicate k.toNat xs).flatten))
theorem op_repR : OpR X (binaryOp .Mult) (rRepR X.K) := by
  intro pins s σ H x y v u Q I rx ry ⟨l, k, xs, ex, ey, hH, h1, h2, hz, q⟩
  have hlen : xs.length * k.toNat ≤ sizeLine := Nat.le_trans (Nat.mul_le_mul hz (by omega : k.toNat ≤ 1000)) (by decide)
  rcases (Classical.em (H l = some (.lst xs))) with hP | _
  · exact op_rep pins s σ H x y v u Q I rx ry ⟨l, k, xs, ex, ey, hP, by omega, by omega, hlen, q⟩
  · subst ex ey
    cases rx
    obtain ⟨t, rfl⟩ := ry
    obtain ⟨z, its, n, r, hl, e⟩ := rd_lst I hH
    have hlen' : its.toArray.size * k.toNat ≤ sizeLine := by rw [List.size_toArray, ← hl]; exact hlen
    have hcap : ¬ its.toArray.size * k.toNat > (2 ^ 63 - 1) / 8 := by
      have z2 : (sizeLine : Nat) ≤ (2 ^ 63 - 1) / 8 := by decide
      omega
    have hfit : ¬ (!Builtin.List.listFitsIndex k) = true := by
      rw [fitsIndex_both (by omega) (by omega)]
      exact Bool.false_ne_true
    have hlong : ¬ Builtin.List.listTooLong (its.toArray.size * k.toNat) = true := by
      rw [notLongL hlen']
      exact Bool.false_ne_true
    have f0 : ∀ m : Nat, List.foldl (fun x1 x2 => x1 ++ x2) #[] (List.replicate m its.toArray) = (List.replicate m its).flatten.toArray := size_rep its
    have hnew : List.foldl (fun x1 x2 => x1 ++ x2) #[] (List.replicate (if its.toArray.isEmpty = true then 0 else k.toNat) its.toArray) = (List.replicate k.toNat its).flatten.toArray := by
      rw [f0]
      cases its with
      | nil => simp
      | cons a r' => rw [if_neg (by simp)]
    refine wpAny_binaryOp_repeat_ref (T := "list") (U := "int") (by decide) ⟨_, e, rfl⟩ (fun s' => typeIs_int s' k t) noFill_list_mul F.fills_int_mul F.slot_int_rmul repeat_list F.slot_int_index.lookup
      (call_meets F.slot_int_rmul (typeIs_int s k t) F.entry_int_rmul (F.args_int_rmul_2 _ _) (int___rmul___int_list k t l its.toArray n) ⟨e, rfl, ⟨_, e, rfl⟩, ?_⟩)
    refine call_meets F.slot_list_mul ⟨_, e, rfl⟩ F.entry_list_mul (F.args_list_mul_2 _ _) (AutoListH.list___mul___list_int_3 l its.toArray n k t hfit hcap hlong) ⟨e, ?_⟩
    rw [hnew]
    exact ⟨.ref _, _, I.lnew (t' := s.toks) (r.rep k.toNat) (by rw [PyProof.Rows.lm_len_rep_flat, Nat.mul_comm]; exact hlen), rfl, q _ I.fresh⟩
theorem op_mulD : OpR X (binaryOp .Mult) (rD2 X.K mulD) := by
  intro pins s σ H x y v u Q I rx ry ⟨G, A, S, d, e, z, R, hd, he, hg, q⟩
  rcases alt_eq hg with hg | hg
  · obtain ⟨i, j, rfl, rfl, hc, rfl⟩ := ii_eq hg
    have hc' : CMul i j := by
      rcases Bool.or_eq_true_iff.mp hc with h | h
      · exact .inl (small64_eq h)
      · exact .inr (small64_eq h)
    exact op_mul pins s σ H x y v u Q I rx ry ⟨i, j, hd.intE, he.intE, hc', q G H _ Ex.refl R (.int _)⟩
  rcases alt_eq hg with hg | hg
  · obtain ⟨xs, k, h1, h2, hg⟩ := on2_eq hg
    cases D.tup?_eq h1
    cases D.int?_eq h2
    obtain ⟨rfl, hc⟩ := guard_eq hg
    obtain ⟨c1, c2, c3, c4⟩ := of_decide_eq_true hc
    obtain ⟨a, vs, e1, s1, t1⟩ := hd.tupE R
    have hvs : vs ≠ [] := fun z => by subst z; cases t1; exact c1 rfl
    refine op_repF pins s σ H x y v u Q I rx ry ⟨a, k, vs, e1, he.intE, s1.sq, hvs, c3, c4, by rw [t1.length]; exact c2, fun hk => ?_, new_tup R (t1.rep _) q⟩
    subst hk
    rw [← e1]
    refine q G H _ Ex.refl R ?_
    have ez : (List.replicate (1 : Int).toNat xs).flatten = xs := by simp [List.replicate]
    rw [ez]
    exact hd.tupN
  · obtain ⟨xs, k, h1, h2, hg⟩ := on2_eq hg
    cases D.lst?_eq h1
    cases D.int?_eq h2
    obtain ⟨rfl, hc⟩ := guard_eq hg
    obtain ⟨c2, c3, c4⟩ := of_decide_eq_true hc
    obtain ⟨a, vs, e1, s1, t1⟩ := hd.lstE R
    exact op_repR pins s σ H x y v u Q I rx ry ⟨a, k, vs, e1, he.intE, s1, c3, c4, by rw [t1.length]; exact c2, fun p hp => new_lst R (t1.rep _) hp q⟩
/-! ## in -/
end
end FL
end
section
set_option Elab.async false
set_option linter.all false
set_option maxRecDepth 100000
set_option autoImplicit false
set_option maxHeartbeats 2000000
namespace FL
open PySem PySem.Spec PyProof.Rows L2
section
variable {X : Cx}
/-! ## in -/
def D.key? : D → Option Key
  | .int i => some (.inl i)
  | .str x => some (.inr x)
  | _ => none
theorem dv_key {K : PySem.W.Frag} {G H : Hp} {A : List Addr} {v : V} {d : D} {k : Key} (h : Dv K G A H v d) (e : d.key? = some k) : v = kV k := by
  cases d with
  | int i => cases e; exact h.intE
  | str i => cases e; exact h.strE.1
  | _ => cases e
def seqP : PyData → Option (List PyData)
  | .list xs => some xs
  | .tuple xs => some xs
  | _ => none
def inSeq (d e : D) : Option Bool := match pyD d, (pyD e).bind seqP with
  | some p, some ps => some (ps.any fun z => PyData.eqv z p)
  | _, _ => none
def lookK {α : Type} (kvs : List (Key × α)) (k : Key) : Option α := (kvs.find? fun kv => decide (kv.1 = k)).map (·.2)
theorem look_rel {K : PySem.W.Frag} {G : Hp} {A : List Addr} {k : Key} : ∀ {kvs : List (Key × V)} {kds : List (Key × D)}, DnKV K G A kvs kds →
    (∀ d, lookK kds k = some d → ∃ v, valV kvs k = some v ∧ Dn K G A v d) ∧ (lookK kds k = none → valV kvs k = none)
  | _, _, .nil => by exact ⟨fun d e => (by cases e), fun _ => rfl⟩
  | _, _, .cons (k := k') (v := v) (d := d') a b => by
    obtain ⟨h1, h2⟩ := look_rel (k := k) b
    by_cases hk : k' = k
    · subst hk
      constructor
      · intro d e
        simp [lookK] at e
        subst e
        exact ⟨v, by simp [valV], a⟩
      · intro e
        simp [lookK] at e
    · constructor
      · intro d e
        obtain ⟨v', e2, r⟩ := h1 d (by simpa [lookK, hk] using e)
        exact ⟨v', by simpa [valV, hk] using e2, r⟩
      · intro e
        have e' := h2 (by simpa [lookK, hk] using e)
        simpa [valV, hk] using e'
def inB (d e : D) : Option Bool := alt (inSeq d e) (alt (on2 D.str? D.str? d e fun x y => some (!(Builtin.Str.occurrences y x 0 y.length 1).isEmpty))
  (on2 D.key? D.dct? d e fun k kvs => some (lookK kvs k).isSome))
def inD (d e : D) : Option D := (inB d e).map .bl
def notInD (d e : D) : Option D := (inB d e).map fun b => .bl (!b)
theorem inSeq_eq {d e : D} {b : Bool} (h : inSeq d e = some b) : ∃ p r ps, pyD d = some p ∧ pyD e = some r ∧ (r = .list ps ∨ r = .tuple ps) ∧ b = ps.any fun z => PyData.eqv z p := by
  unfold inSeq at h
  cases e1 : pyD d with
  | none => rw [e1] at h; cases h
  | some p =>
    cases e2 : pyD e with
    | none => rw [e1, e2] at h; cases h
    | some r =>
      rw [e1, e2] at h
      cases r with
      | list ps => cases h; exact ⟨p, _, ps, rfl, rfl, .inl rfl, rfl⟩
      | tuple ps => cases h; exact ⟨p, _, ps, rfl, rfl, .inr rfl, rfl⟩
      | _ => cases h
theorem room_in {A : Around} {p : PyData} {ps : List PyData} (h : SeqAt.shaped p = true) (hu : A.units + 65 < cLine) : A.units + 1 + min (PyData.depthAll ps) p.depth < cLine := by
  have h1 := SeqAt.depth_of_shaped h
  have h2 : min (PyData.depthAll ps) p.depth ≤ p.depth := Nat.min_le_right _ _
  omega
theorem op_inDD (hu : X.A.units + 65 < cLine) : OpR X (compareOp .In) (rD2 X.K inD) := by
  intro pins s σ H x y v u Q I rx ry ⟨G, A, S, d, e, z, R, hd, he, hg, q⟩
  obtain ⟨b, hb, ez⟩ := Option.map_eq_some_iff.mp hg
  clear hg
  subst ez
  have fin := q G H _ Ex.refl R (.bl b)
  replace hb := alt_eq hb
  rcases hb with hb | hb
  · obtain ⟨p, r, ps, h1, h2, h3, rfl⟩ := inSeq_eq hb
    obtain ⟨a1, b1⟩ := dv_shaped R hd h1
    obtain ⟨a2, b2⟩ := dv_shaped R he h2
    obtain ⟨as, r1⟩ := Dp.reads I p x v a1 rx
    obtain ⟨bs, r2⟩ := Dp.reads I r y u a2 ry
    rcases h3 with rfl | rfl
    · exact SeqAt.in_list_reads r2 r1 (SeqAt.canLay_of_shaped b2) (SeqAt.canLay_of_shaped b1) (room_in b1 hu) ⟨.bl _, H, I, rfl, fin⟩
    · exact SeqAt.in_tuple_reads r2 r1 (SeqAt.canLay_of_shaped b2) (SeqAt.canLay_of_shaped b1) (room_in b1 hu) ⟨.bl _, H, I, rfl, fin⟩
  replace hb := alt_eq hb
  rcases hb with hb | hb
  · obtain ⟨i, j, h1, h2, hk⟩ := on2_eq hb
    clear hb
    cases D.str?_eq h1
    cases D.str?_eq h2
    cases hk
    exact op_in_str pins s σ H x y v u Q I rx ry ⟨i, j, hd.strE.1, he.strE.1, fin⟩
  · obtain ⟨k, kvs, h1, h2, hk⟩ := on2_eq hb
    clear hb
    cases D.dct?_eq h2
    obtain ⟨a, vs, rfl, s2, t2⟩ := he.dctE R
    cases hk
    have ek := dv_key hd h1
    subst ek
    cases ry
    refine d_in (by omega) I (DGet.k (k := k) s2) rx fun s' I' => ?_
    have hs : (valV vs k).isSome = (lookK kvs k).isSome := by
      cases hl : lookK kvs k with
      | none => rw [(look_rel t2).2 hl]; rfl
      | some d => obtain ⟨v, ev, _⟩ := (look_rel t2).1 d hl; rw [ev]; rfl
    rw [hs]
    exact ⟨.bl _, H, I', rfl, fin⟩
theorem op_notInDD (hu : X.A.units + 65 < cLine) : OpR X (compareOp .NotIn) (rD2 X.K notInD) := by
  intro pins s σ H x y v u Q I rx ry ⟨G, A, S, d, e, z, R, hd, he, hg, q⟩
  obtain ⟨b, hb, ez⟩ := Option.map_eq_some_iff.mp hg
  clear hg
  subst ez
  have fin := q G H _ Ex.refl R (.bl (!b))
  replace hb := alt_eq hb
  rcases hb with hb | hb
  · obtain ⟨p, r, ps, h1, h2, h3, rfl⟩ := inSeq_eq hb
    obtain ⟨a1, b1⟩ := dv_shaped R hd h1
    obtain ⟨a2, b2⟩ := dv_shaped R he h2
    obtain ⟨as, r1⟩ := Dp.reads I p x v a1 rx
    obtain ⟨bs, r2⟩ := Dp.reads I r y u a2 ry
    rcases h3 with rfl | rfl
    · exact SeqAt.notIn_list_reads r2 r1 (SeqAt.canLay_of_shaped b2) (SeqAt.canLay_of_shaped b1) (room_in b1 hu) ⟨.bl _, H, I, rfl, fin⟩
    · exact SeqAt.notIn_tuple_reads r2 r1 (SeqAt.canLay_of_shaped b2) (SeqAt.canLay_of_shaped b1) (room_in b1 hu) ⟨.bl _, H, I, rfl, fin⟩
  replace hb := alt_eq hb
  rcases hb with hb | hb
  · obtain ⟨i, j, h1, h2, hk⟩ := on2_eq hb
    clear hb
    cases D.str?_eq h1
    cases D.str?_eq h2
    cases hk
    exact op_notin_str pins s σ H x y v u Q I rx ry ⟨i, j, hd.strE.1, he.strE.1, fin⟩
  · obtain ⟨k, kvs, h1, h2, hk⟩ := on2_eq hb
    clear hb
    cases D.dct?_eq h2
    obtain ⟨a, vs, rfl, s2, t2⟩ := he.dctE R
    cases hk
    have ek := dv_key hd h1
    subst ek
    cases ry
    refine d_notIn (by omega) I (DGet.k (k := k) s2) rx fun s' I' => ?_
    have hs : (valV vs k).isSome = (lookK kvs k).isSome := by
      cases hl : lookK kvs k with
      | none => rw [(look_rel t2).2 hl]; rfl
      | some d => obtain ⟨v, ev, _⟩ := (look_rel t2).1 d hl; rw [ev]; rfl
    rw [hs]
    exact ⟨.bl _, H, I', rfl, fin⟩
/-! ## x[i] -/
theorem atI_rel {K : PySem.W.Frag} {G : Hp} {A : List Addr} {vs : List V} {ds : List D} {i : Int} {d : D} (t : DnAll K G A vs ds) (h : atI ds i = some d) : ∃ v, atI vs i = some v ∧ Dn K G A v d := by
  unfold atI at h ⊢
  rw [t.length]
  cases e : ixN ds.length i with
  | none => rw [e] at h; cases h
  | some j =>
    rw [e] at h
    exact t.get h
theorem strOk_one {x : Str} {c : Nat} (h : PyData.strOk x = true) (hc : c ∈ x.cps.toList) : PyData.strOk ⟨#[c]⟩ = true := by
  unfold PyData.strOk at *
  rw [Array.all_eq_true'] at *
  intro b hb
  have : b = c := by simpa using hb
  subst this
  exact h b (by simpa using hc)
theorem sub_tail {prog : Program} {w : World} {A : Around} {E : Value → Shared → Prop} {s : Shared} {value slice : Expr} {o i : Value} {T id : String} {Q : Value → Shared → Prop} (hT : s.TypeIs o T)
    (hl : typeLookup (.type T) "__getitem__" = pure (some (.builtin id))) (h : wpAny (model prog w) A (getItem o i) Q E s) (hs : subscripted slice false o i = operate [o, i] (getItem o i)) :
    wpAny (model prog w) A (subscriptTail value slice o i) Q E s := by
  unfold subscriptTail
  refine wpAny_bind ?_
  rw [getitemInPython_of_ne hT.not_modules]
  refine wpAny_bind (wpAny_specialOf hT hl ?_)
  have fin : wpAny (model prog w) A (subscripted slice false o i) (fun r s' => wpAny (model prog w) A (letTemporaryGo value o r >>= fun _ => pure r) Q E s') E s := by
    rw [hs]
    exact wpAny_operating (wpAny_mono h (fun r s' h' => wpAny_bind (wpAny_letTemporaryGo (wpAny_pure h'))) fun _ _ x => x)
  first
    | exact wpAny_pure (wpAny_bind fin)
    | exact wpAny_bind (wpAny_pure (wpAny_bind fin))
    | exact wpAny_pure fin
def ixD (d e : D) : Option D := alt (on2 D.lst? D.int? d e fun xs i => atI xs i) (alt (on2 D.tup? D.int? d e fun xs i => atI xs i)
  (alt (on2 D.str? D.int? d e fun x i => if x.length ≤ 1000000 then (atI x.cps.toList i).map fun c => .str ⟨#[c]⟩ else none) (on2 D.dct? D.key? d e fun kvs k => lookK kvs k)))
theorem atI_mem {α : Type} {xs : List α} {i : Int} {a : α} (h : atI xs i = some a) : a ∈ xs := by
  obtain ⟨j, _, h2, _⟩ := atI_get h
  exact List.mem_of_getElem? h2
theorem ix_D (hu : X.A.units + 65 < cLine) : IxR X (rD2 X.K ixD) := by
  intro value slice pins s σ H x y v u Q I rx ry ⟨G, A, S, d, e, z, R, hd, he, hg, q⟩ hs
  replace hg := alt_eq hg
  rcases hg with hg | hg
  · obtain ⟨xs, i, h1, h2, hk⟩ := on2_eq hg
    clear hg
    cases D.lst?_eq h1
    cases D.int?_eq h2
    obtain ⟨a, vs, rfl, s1, t1⟩ := hd.lstE R
    obtain ⟨w, ew, nw⟩ := atI_rel t1 hk
    exact ix_list value slice pins s σ H _ y v u Q I rx ry ⟨a, vs, i, w, rfl, he.intE, s1.sq, ew, q G H w Ex.refl R nw⟩ hs
  replace hg := alt_eq hg
  rcases hg with hg | hg
  · obtain ⟨xs, i, h1, h2, hk⟩ := on2_eq hg
    clear hg
    cases D.tup?_eq h1
    cases D.int?_eq h2
    obtain ⟨a, vs, rfl, s1, t1⟩ := hd.tupE R
    obtain ⟨w, ew, nw⟩ := atI_rel t1 hk
    exact ix_tup value slice pins s σ H _ y v u Q I rx ry ⟨a, vs, i, w, rfl, he.intE, s1.sq, ew, q G H w Ex.refl R nw⟩ hs
  replace hg := alt_eq hg
  rcases hg with hg | hg
  · obtain ⟨xs, i, h1, h2, hk⟩ := on2_eq hg
    clear hg
    cases D.str?_eq h1
    cases D.int?_eq h2
    split at hk
    · rename_i hl
      obtain ⟨c, ec, rfl⟩ := Option.map_eq_some_iff.mp hk
      obtain ⟨rfl, o1⟩ := hd.strE
      exact ix_str value slice pins s σ H _ y v u Q I rx ry ⟨xs, i, c, rfl, he.intE, small_line hl, ec, q G H _ Ex.refl R (.str _ (strOk_one o1 (atI_mem ec)))⟩ hs
    · cases hk
  · obtain ⟨kvs, k, h1, h2, hk⟩ := on2_eq hg
    clear hg
    cases D.dct?_eq h1
    obtain ⟨a, vs, rfl, s1, t1⟩ := hd.dctE R
    have ek := dv_key he h2
    subst ek
    cases rx
    obtain ⟨w, ew, nw⟩ := (look_rel t1).1 z hk
    refine sub_tail (dict_typeIs I (DGet.k (k := k) s1)) PySem.F.slot_dict_getitem.lookup (d_getItem (by omega) I (v := w) (by have := DGet.k (k := k) s1; rw [ew] at this; exact this) ry fun w' s3 I3 rw' => ?_) hs
    exact ⟨w, H, I3, rw', q G H w Ex.refl R nw⟩
end
end FL
end
section
set_option Elab.async false
set_option linter.all false
set_option maxRecDepth 100000
set_option autoImplicit false
set_option maxHeartbeats 2000000
namespace FL
open PySem PySem.Spec PyProof.Rows L2
section
variable {X : Cx} {EE : XK} {e : Expr} {fe : FEx} {pos : Pos}
/-! ## slices -/
def RO (X : Cx) (EE : XK) (f : Env → M (Option Int)) : TO := fun s H Q => ∃ r G A S, EnvR X.K G A s r ∧ Rel X.K A S G H ∧ (f r S).post (fun o S' => ∀ G' A' H', Ex A G H A' G' H' → Rel X.K A' S' G' H' → Q o H') (QE X.K X.mg EE G A H)
abbrev FO (X : Cx) (EE : XK) (e : Option Expr) (f : Env → M (Option Int)) : Prop := PO X e (RO X EE f)
def oNone : Env → M (Option Int) := fun _ => ret none
def oSome (f : FEx) : Env → M (Option Int) := fun r => bnd (f r) fun d => bnd (opt d.int?) fun i => ret (some i)
theorem fo_none : FO X EE none oNone := ⟨fun pins s σ H Q I ⟨r, G, A, S, hr, hR, q⟩ => po_none.run pins s σ H Q I (q G A H Ex.refl hR)⟩
theorem fo_some (h : FE X EE e fe) : FO X EE (some e) (oSome fe) := ⟨fun pins s σ H Q I ⟨r, G, A, S, hr, hR, q⟩ => by
  refine (po_some h).run pins s σ H Q I (re_bnd hr hR q (fun _ _ z => z) fun G1 A1 H1 x d S1 a1 r1 R1 n1 q1 => ?_)
  rw [post_bnd, post_opt] at q1
  obtain ⟨i, ei, q1⟩ := q1
  cases D.int?_eq ei
  cases n1
  exact ⟨i, rfl, q1 G1 A1 H1 a1 R1⟩⟩
def cutL {α : Type} (xs : List α) (lo hi : Option Int) : List α := (xs.drop (HT.sIx xs.length 0 lo)).take (HT.sIx xs.length xs.length hi - HT.sIx xs.length 0 lo)
theorem cut_rel {K : PySem.W.Frag} {G : Hp} {A : List Addr} {vs : List V} {ds : List D} (t : DnAll K G A vs ds) (lo hi : Option Int) : DnAll K G A (cutV vs lo hi) (cutL ds lo hi) := by
  unfold cutV cutL
  rw [t.length]
  exact (t.drop _).take _
theorem strOk_cut {z : Str} (h : PyData.strOk z = true) (lo hi : Option Int) : PyData.strOk (cutS z lo hi) = true := by
  unfold PyData.strOk at *
  rw [Array.all_eq_true'] at *
  intro c hc
  refine h c ?_
  have hc' : c ∈ (cutS z lo hi).cps.toList := by simpa using hc
  unfold cutS at hc'
  simp at hc'
  have := List.mem_of_mem_drop (List.mem_of_mem_take hc')
  simpa using this
def slD (d : D) (lo hi : Option Int) : Option D := alt (on1 D.lst? d fun xs => some (.lst (cutL xs lo hi))) (alt (on1 D.tup? d fun xs => some (.tup (cutL xs lo hi))) (on1 D.str? d fun x => cap x.length (.str (cutS x lo hi))))
def rSlD (K : PySem.W.Frag) (g : D → Option Int → Option Int → Option D) : V → Option Int → Option Int → Hp → VK → Prop := fun x lo hi H Q => ∃ G A S d z, Rel K A S G H ∧ Dv K G A H x d ∧ g d lo hi = some z ∧ ∀ G' H' v, Ex A G H A G' H' → Rel K A S G' H' → Dn K G' A v z → Q v H'
theorem sl_D : SlR X (rSlD X.K slD) := by
  intro pins s σ H x v vl vu lo hi sl Q I rx hs pl pu ⟨G, A, S, d, z, R, hd, hg, q⟩
  replace hg := alt_eq hg
  rcases hg with hg | hg
  · obtain ⟨xs, h1, hk⟩ := on1_eq hg
    clear hg
    cases D.lst?_eq h1
    cases hk
    obtain ⟨a, vs, rfl, s1, t1⟩ := hd.lstE R
    exact sl_list pins s σ H _ v vl vu lo hi sl Q I rx hs pl pu ⟨a, vs, rfl, s1.sq, fun p hp => new_lst R (cut_rel t1 lo hi) hp q⟩
  replace hg := alt_eq hg
  rcases hg with hg | hg
  · obtain ⟨xs, h1, hk⟩ := on1_eq hg
    clear hg
    cases D.tup?_eq h1
    cases hk
    obtain ⟨a, vs, rfl, s1, t1⟩ := hd.tupE R
    refine sl_tupF pins s σ H _ v vl vu lo hi sl Q I rx hs pl pu ⟨a, vs, rfl, s1.sq, fun hw => q G H _ Ex.refl R ?_, new_tup R (cut_rel t1 lo hi) q⟩
    have e1 : cutL xs lo hi = xs := by
      have hl := congrArg List.length hw
      unfold cutV at hl
      unfold cutL
      rw [List.length_take, List.length_drop, t1.length] at hl
      have a1 := HT.sIx_le xs.length 0 (Nat.zero_le _) lo
      have a2 := HT.sIx_le xs.length xs.length (Nat.le_refl _) hi
      by_cases hx : xs.length = 0
      · have : xs = [] := List.eq_nil_of_length_eq_zero hx
        subst this
        simp
      · have e0 : HT.sIx xs.length 0 lo = 0 := by omega
        have e9 : HT.sIx xs.length xs.length hi = xs.length := by omega
        rw [e0, e9, List.drop_zero, Nat.sub_zero, List.take_length]
    rw [e1]
    exact hd.tupN
  · obtain ⟨xs, h1, hk⟩ := on1_eq hg
    clear hg
    cases D.str?_eq h1
    obtain ⟨rfl, hl⟩ := cap_eq hk
    obtain ⟨rfl, o1⟩ := hd.strE
    exact sl_str pins s σ H _ v vl vu lo hi sl Q I rx hs pl pu ⟨xs, rfl, small_line hl, q G H _ Ex.refl R (.str _ (strOk_cut o1 lo hi))⟩
def eSl (f : FEx) (l u : Env → M (Option Int)) : FEx := fun r => bnd (f r) fun x => bnd (l r) fun lo => bnd (u r) fun hi => fun S => opt (slD (vw S x) lo hi) S
theorem ro_bnd {s : L2.St} {H : Hp} {Q : Option Int → Hp → Prop} {r : Env} {G : Hp} {A : List Addr} {S : Sto} {α : Type} {f : Env → M (Option Int)} {k : Option Int → M α} {P : α → Sto → Prop} {E : Exn → Sto → Prop}
    (hr : EnvR X.K G A s r) (hR : Rel X.K A S G H) (h : (bnd (f r) k S).post P E) (hE : ∀ x S', E x S' → QE X.K X.mg EE G A H x S')
    (w : ∀ G' A' H' d S', Ex A G H A' G' H' → EnvR X.K G' A' s r → Rel X.K A' S' G' H' → (k d S').post P E → Q d H') : RO X EE f s H Q := by
  rw [post_bnd] at h
  refine ⟨r, G, A, S, hr, hR, h.mono (fun d S' q G' A' H' a c => w G' A' H' d S' a (hr.mono a.g a.p) c q) hE⟩
theorem fe_sl {lo hi : Option Expr} {fl fu : Env → M (Option Int)} {p2 : Pos} (he : FE X EE e fe) (hl : FO X EE lo fl) (hu : FO X EE hi fu) : FE X EE (.Subscript e (.Slice lo hi none p2) pos) (eSl fe fl fu) := by
  refine pe_weak (pe_slice sl_D he hl hu) fun s H Q ⟨r, G, A, S, hr, hR, q⟩ => ?_
  refine re_bnd hr hR q (fun _ _ z => z) fun G1 A1 H1 x d S1 a1 r1 R1 n1 q1 => ?_
  refine ro_bnd r1 R1 q1 (fun _ _ z => z.mono a1) fun G2 A2 H2 l S2 a2 r2 R2 q2 => ?_
  refine ro_bnd r2 R2 q2 (fun _ _ z => z.mono (a1.trans a2)) fun G3 A3 H3 u S3 a3 r3 R3 q3 => ?_
  rw [post_opt] at q3
  obtain ⟨z, hz, q3⟩ := q3
  exact ⟨G3, A3, S3, _, z, R3, R3.view (n1.mono (a2.trans a3).g (a2.trans a3).p), hz, fun G4 H4 v a4 R4 n4 => q3 G4 A3 H4 v (((a1.trans a2).trans a3).trans a4) R4 n4⟩
/-! ## built-in functions -/
def one {α : Type} (k : D → Option α) : List D → Option α
  | [d] => k d
  | _ => none
def two {α : Type} (k : D → D → Option α) : List D → Option α
  | [d, e] => k d e
  | _ => none
theorem one_eq {α : Type} {k : D → Option α} {ds : List D} {z : α} (h : one k ds = some z) : ∃ d, ds = [d] ∧ k d = some z := by
  match ds, h with
  | [d], h => exact ⟨d, rfl, h⟩
theorem two_eq {α : Type} {k : D → D → Option α} {ds : List D} {z : α} (h : two k ds = some z) : ∃ d e, ds = [d, e] ∧ k d e = some z := by
  match ds, h with
  | [d, e], h => exact ⟨d, e, rfl, h⟩
theorem DvAll.one {K : PySem.W.Frag} {G H : Hp} {A : List Addr} {vs : List V} {d : D} (h : DvAll K G A H vs [d]) : ∃ v, vs = [v] ∧ Dv K G A H v d := by
  cases h with | cons a b => cases b; exact ⟨_, rfl, a⟩
theorem DvAll.two {K : PySem.W.Frag} {G H : Hp} {A : List Addr} {vs : List V} {d e : D} (h : DvAll K G A H vs [d, e]) : ∃ v w, vs = [v, w] ∧ Dv K G A H v d ∧ Dv K G A H w e := by
  cases h with | cons a b => cases b with | cons c b => cases b; exact ⟨_, _, rfl, a, c⟩
def lenD : List D → Option D := one fun d => alt (on1 D.lst? d fun xs => some (.int xs.length)) (alt (on1 D.tup? d fun xs => some (.int xs.length)) (alt (on1 D.str? d fun x => cap x.length (.int x.length)) (on1 D.dct? d fun xs => some (.int xs.length))))
theorem DnKV.length {K : PySem.W.Frag} {G : Hp} {A : List Addr} : ∀ {vs : List (Key × V)} {ds : List (Key × D)}, DnKV K G A vs ds → vs.length = ds.length
  | _, _, .nil => rfl
  | _, _, .cons _ b => by simp [b.length]
theorem call_lenD : CallR X (.builtin "len") (rDs X.K lenD) := by
  intro pins s σ H xs us Q I r ⟨G, A, S, ds, z, R, hds, hgs, q⟩
  obtain ⟨d, rfl, hg⟩ := one_eq hgs
  obtain ⟨x, rfl, hd⟩ := hds.one
  clear hgs hds
  replace hg := alt_eq hg
  rcases hg with hg | hg
  · obtain ⟨xs, h1, hk⟩ := on1_eq hg
    clear hg
    cases D.lst?_eq h1
    cases hk
    obtain ⟨a, vs, rfl, s1, t1⟩ := hd.lstE R
    exact call_len_seq pins s σ H _ us Q I r ⟨a, vs, rfl, .inl (s1.sq), by rw [t1.length]; exact q G H _ Ex.refl R (.int _)⟩
  replace hg := alt_eq hg
  rcases hg with hg | hg
  · obtain ⟨xs, h1, hk⟩ := on1_eq hg
    clear hg
    cases D.tup?_eq h1
    cases hk
    obtain ⟨a, vs, rfl, s1, t1⟩ := hd.tupE R
    exact call_len_seq pins s σ H _ us Q I r ⟨a, vs, rfl, .inr s1.sq, by rw [t1.length]; exact q G H _ Ex.refl R (.int _)⟩
  replace hg := alt_eq hg
  rcases hg with hg | hg
  · obtain ⟨xs, h1, hk⟩ := on1_eq hg
    clear hg
    cases D.str?_eq h1
    obtain ⟨rfl, hl⟩ := cap_eq hk
    exact call_len_str pins s σ H _ us Q I r ⟨xs, by rw [hd.strE.1], small_line hl, q G H _ Ex.refl R (.int _)⟩
  · obtain ⟨xs, h1, hk⟩ := on1_eq hg
    clear hg
    cases D.dct?_eq h1
    cases hk
    obtain ⟨a, vs, rfl, s1, t1⟩ := hd.dctE R
    obtain ⟨u, rfl, rx⟩ := vals1 r
    cases rx
    refine d_len I (.inl s1) fun t s' I' => ⟨.int vs.length, H, I', ⟨t, rfl⟩, ?_⟩
    rw [t1.length]
    exact q G H _ Ex.refl R (.int _)
def intD : List D → Option D := one fun d => alt (on1 D.int? d fun i => some (.int i)) (alt (on1 D.bl? d fun b => some (.int (if b then 1 else 0))) (on1 D.str? d fun x => if x.length ≤ 640 then (PySem.intText? x).map .int else none))
theorem call_intD : CallR X (.type "int") (rDs X.K intD) := by
  intro pins s σ H xs us Q I r ⟨G, A, S, ds, z, R, hds, hgs, q⟩
  obtain ⟨d, rfl, hg⟩ := one_eq hgs
  obtain ⟨x, rfl, hd⟩ := hds.one
  clear hgs hds
  replace hg := alt_eq hg
  rcases hg with hg | hg
  · obtain ⟨i, h1, hk⟩ := on1_eq hg
    clear hg
    cases D.int?_eq h1
    cases hk
    exact call_int1 pins s σ H _ us Q I r (.inl ⟨i, by rw [hd.intE], q G H _ Ex.refl R (.int _)⟩)
  replace hg := alt_eq hg
  rcases hg with hg | hg
  · obtain ⟨i, h1, hk⟩ := on1_eq hg
    clear hg
    cases D.bl?_eq h1
    cases hk
    exact call_int1 pins s σ H _ us Q I r (.inr ⟨i, by rw [hd.blE], q G H _ Ex.refl R (.int _)⟩)
  · obtain ⟨i, h1, hk⟩ := on1_eq hg
    clear hg
    cases D.str?_eq h1
    split at hk
    · rename_i hl
      obtain ⟨n, en, rfl⟩ := Option.map_eq_some_iff.mp hk
      exact call_int_str pins s σ H _ us Q I r ⟨i, n, by rw [hd.strE.1], en, hl, q G H _ Ex.refl R (.int _)⟩
    · cases hk
def tupleD : List D → Option D := one fun d => alt (on1 D.lst? d fun xs => some (.tup xs)) (on1 D.tup? d fun xs => some (.tup xs))
theorem call_tupleD : CallR X (.type "tuple") (rDs X.K tupleD) := by
  intro pins s σ H xs us Q I r ⟨G, A, S, ds, z, R, hds, hgs, q⟩
  obtain ⟨d, rfl, hg⟩ := one_eq hgs
  obtain ⟨x, rfl, hd⟩ := hds.one
  clear hgs hds
  replace hg := alt_eq hg
  rcases hg with hg | hg
  · obtain ⟨xs, h1, hk⟩ := on1_eq hg
    clear hg
    cases D.lst?_eq h1
    cases hk
    obtain ⟨a, vs, rfl, s1, t1⟩ := hd.lstE R
    exact call_tupleF pins s σ H _ us Q I r ⟨a, vs, rfl, .inl ⟨s1.sq, new_tup R t1 q⟩⟩
  · obtain ⟨xs, h1, hk⟩ := on1_eq hg
    clear hg
    cases D.tup?_eq h1
    cases hk
    obtain ⟨a, vs, rfl, s1, t1⟩ := hd.tupE R
    exact call_tupleF pins s σ H _ us Q I r ⟨a, vs, rfl, .inr ⟨s1.sq, q G H _ Ex.refl R hd.tupN⟩⟩
def listD : List D → Option D := one fun d => alt (on1 D.lst? d fun xs => some (.lst xs)) (on1 D.tup? d fun xs => some (.lst xs))
theorem call_listD : CallR X (.type "list") (rDs X.K listD) := by
  intro pins s σ H xs us Q I r ⟨G, A, S, ds, z, R, hds, hgs, q⟩
  obtain ⟨d, rfl, hg⟩ := one_eq hgs
  obtain ⟨x, rfl, hd⟩ := hds.one
  clear hgs hds
  replace hg := alt_eq hg
  rcases hg with hg | hg
  · obtain ⟨xs, h1, hk⟩ := on1_eq hg
    clear hg
    cases D.lst?_eq h1
    cases hk
    obtain ⟨a, vs, rfl, s1, t1⟩ := hd.lstE R
    exact call_list_of pins s σ H _ us Q I r ⟨a, vs, rfl, .inl (s1.sq), fun l hl => new_lst R t1 hl q⟩
  · obtain ⟨xs, h1, hk⟩ := on1_eq hg
    clear hg
    cases D.tup?_eq h1
    cases hk
    obtain ⟨a, vs, rfl, s1, t1⟩ := hd.tupE R
    exact call_list_of pins s σ H _ us Q I r ⟨a, vs, rfl, .inr s1.sq, fun l hl => new_lst R t1 hl q⟩
/-- lists of bools, of ints -/
def allQ {α : Type} (f : D → Option α) : List D → Option (List α)
  | [] => some []
  | d :: ds => match f d, allQ f ds with
    | some a, some as => some (a :: as)
    | _, _ => none
theorem allQ_cons {α : Type} {f : D → Option α} {d : D} {ds : List D} {as : List α} (h : allQ f (d :: ds) = some as) : ∃ a bs, f d = some a ∧ allQ f ds = some bs ∧ as = a :: bs := by
  unfold allQ at h
  cases e1 : f d with
  | none => rw [e1] at h; cases h
  | some a =>
    cases e2 : allQ f ds with
    | none => rw [e1, e2] at h; cases h
    | some bs => rw [e1, e2] at h; cases h; exact ⟨a, bs, rfl, rfl, rfl⟩
theorem bls_rel {K : PySem.W.Frag} {G : Hp} {A : List Addr} : ∀ {ds : List D} {vs : List V} {bs : List Bool}, DnAll K G A vs ds → allQ D.bl? ds = some bs → vs = bs.map V.bl
  | [], _, bs, h, e => by cases h; cases e; rfl
  | d :: ds, _, bs, h, e => by
    cases h with
    | cons a b =>
      obtain ⟨x, ys, e1, e2, rfl⟩ := allQ_cons e
      cases D.bl?_eq e1
      cases a
      rw [bls_rel b e2]
      rfl
theorem ints_rel {K : PySem.W.Frag} {G : Hp} {A : List Addr} : ∀ {ds : List D} {vs : List V} {bs : List Int}, DnAll K G A vs ds → allQ D.int? ds = some bs → vs = bs.map V.int
  | [], _, bs, h, e => by cases h; cases e; rfl
  | d :: ds, _, bs, h, e => by
    cases h with
    | cons a b =>
      obtain ⟨x, ys, e1, e2, rfl⟩ := allQ_cons e
      cases D.int?_eq e1
      cases a
      rw [ints_rel b e2]
      rfl
def allD : List D → Option D := one fun d => on1 D.lst? d fun xs => (allQ D.bl? xs).map fun bs => .bl (bs.all id)
def anyD : List D → Option D := one fun d => on1 D.lst? d fun xs => (allQ D.bl? xs).map fun bs => .bl (bs.any id)
theorem call_allD (hc : X.calm = true) : CallR X (.builtin "all") (rDs X.K allD) := by
  intro pins s σ H xs us Q I r ⟨G, A, S, ds, z, R, hds, hgs, q⟩
  obtain ⟨d, rfl, hg⟩ := one_eq hgs
  obtain ⟨x, rfl, hd⟩ := hds.one
  clear hgs hds
  obtain ⟨xs, h1, hk⟩ := on1_eq hg
  clear hg
  cases D.lst?_eq h1
  obtain ⟨bs, eb, rfl⟩ := Option.map_eq_some_iff.mp hk
  obtain ⟨a, vs, rfl, s1, t1⟩ := hd.lstE R
  have ev := bls_rel t1 eb
  subst ev
  exact cr_all hc pins s σ H _ us Q I r ⟨a, bs, rfl, s1.sq, q G H _ Ex.refl R (.bl _)⟩
theorem call_anyD (hc : X.calm = true) : CallR X (.builtin "any") (rDs X.K anyD) := by
  intro pins s σ H xs us Q I r ⟨G, A, S, ds, z, R, hds, hgs, q⟩
  obtain ⟨d, rfl, hg⟩ := one_eq hgs
  obtain ⟨x, rfl, hd⟩ := hds.one
  clear hgs hds
  obtain ⟨xs, h1, hk⟩ := on1_eq hg
  clear hg
  cases D.lst?_eq h1
  obtain ⟨bs, eb, rfl⟩ := Option.map_eq_some_iff.mp hk
  obtain ⟨a, vs, rfl, s1, t1⟩ := hd.lstE R
  have ev := bls_rel t1 eb
  subst ev
  exact cr_any hc pins s σ H _ us Q I r ⟨a, bs, rfl, s1.sq, q G H _ Ex.refl R (.bl _)⟩
end
end FL
end
section
set_option Elab.async false
set_option linter.all false
set_option maxRecDepth 100000
set_option autoImplicit false
set_option maxHeartbeats 2000000
namespace FL
open PySem PySem.Spec PyProof.Rows L2
/-! ## texts whose signs are signs -/
def OkL (l : List Nat) : Prop := ∀ c ∈ l, c < 0x110000
theorem strOk_iff {x : Str} : PyData.strOk x = true ↔ OkL x.cps.toList := by
  unfold PyData.strOk OkL
  rw [Array.all_eq_true']
  constructor
  · intro h c hc; simpa using h c (by simpa using hc)
  · intro h c hc; simpa using h c (by simpa using hc)
theorem char_ok (c : Char) : c.toNat < 0x110000 := by
  have h := c.valid
  have e : c.toNat = c.val.toNat := rfl
  rcases h with h | ⟨h1, h2⟩
  · have : c.val.toNat < 0xd800 := h
    omega
  · have : c.val.toNat < 0x110000 := h2
    omega
theorem ofString_ok (s : String) : PyData.strOk (Str.ofString s) = true := by
  rw [strOk_iff]
  intro c hc
  rw [Str.ofString_eq_toList] at hc
  simp only [List.toList_toArray] at hc
  obtain ⟨d, _, rfl⟩ := List.mem_map.mp hc
  exact char_ok d
theorem okL_app {a b : List Nat} (h : OkL a) (k : OkL b) : OkL (a ++ b) := fun c hc => by
  rcases List.mem_append.mp hc with q | q
  · exact h c q
  · exact k c q
theorem reprChar_ok {q c : Nat} (hc : c < 0x110000) : OkL (Builtin.Str.reprChar q c) := by
  have hx : ∀ w, OkL (List.replicate (w - ((Nat.toDigits 16 c).map Char.toNat).length) 48 ++ (Nat.toDigits 16 c).map Char.toNat) := fun w => by
    refine okL_app (fun d hd => ?_) (fun d hd => ?_)
    · rw [(List.mem_replicate.mp hd).2]; omega
    · obtain ⟨e, _, rfl⟩ := List.mem_map.mp hd
      exact char_ok e
  have two : ∀ a b : Nat, a < 0x110000 → b < 0x110000 → OkL [a, b] := fun a b ha hb d hd => by
    rcases List.mem_cons.mp hd with rfl | hd
    · exact ha
    · rcases List.mem_cons.mp hd with rfl | hd
      · exact hb
      · cases hd
  unfold Builtin.Str.reprChar
  simp only
  split
  · exact two _ _ (by omega) hc
  split
  · exact two _ _ (by omega) (by omega)
  split
  · exact two _ _ (by omega) (by omega)
  split
  · exact two _ _ (by omega) (by omega)
  split
  · intro d hd
    have : d = c := by simpa using hd
    omega
  split
  · exact okL_app (two _ _ (by omega) (by omega)) (hx 2)
  split
  · exact okL_app (two _ _ (by omega) (by omega)) (hx 4)
  · exact okL_app (two _ _ (by omega) (by omega)) (hx 8)
theorem reprText_ok {x : Str} (h : PyData.strOk x = true) : PyData.strOk (reprText x) = true := by
  rw [strOk_iff] at h ⊢
  have hq : reprQuote x < 0x110000 := by unfold reprQuote; split <;> omega
  have key : ∀ (l : List Nat) (acc : Array Nat), OkL l → OkL acc.toList → OkL (l.foldl (fun out c => out ++ (Builtin.Str.reprChar (reprQuote x) c).toArray) acc).toList := by
    intro l
    induction l with
    | nil => intro acc _ ha; exact ha
    | cons c r ih =>
      intro acc hl ha
      refine ih _ (fun d hd => hl d (List.mem_cons_of_mem _ hd)) ?_
      rw [Array.toList_append]
      exact okL_app ha (by simpa using reprChar_ok (q := reprQuote x) (hl c List.mem_cons_self))
  unfold reprText
  simp only [Array.toList_push]
  refine okL_app ?_ (fun d hd => ?_)
  · rw [← Array.foldl_toList]
    exact key _ _ h (fun d hd => by
      have : d = reprQuote x := by simpa using hd
      omega)
  · have : d = reprQuote x := by simpa using hd
    omega
theorem join_ok {sep : Str} (hs : PyData.strOk sep = true) : ∀ {ts : List Str}, (∀ t ∈ ts, PyData.strOk t = true) → PyData.strOk (Str.join sep ts) = true := by
  intro ts
  induction ts with
  | nil => intro _; rw [strOk_iff]; intro c hc; cases hc
  | cons t r ih =>
    intro h
    cases r with
    | nil => exact h t List.mem_cons_self
    | cons u r => exact strOk_app (strOk_app (h t List.mem_cons_self) hs) (ih fun v hv => h v (List.mem_cons_of_mem _ hv))
mutual
theorem shown_ok : ∀ p : PyData, p.canLay0 = true → p.showable = true → PyData.strOk p.shown = true
  | .none, _, _ => by rw [PyData.shown_none]; exact ofString_ok _
  | .bool b, _, _ => by rw [PyData.shown_bool]; cases b <;> exact ofString_ok _
  | .int i, _, _ => by rw [PyData.shown_int]; exact ofString_ok _
  | .str x, h, _ => by rw [PyData.shown_str]; exact reprText_ok h
  | .list xs, h, k => by
    rw [PyData.shown_list]
    exact strOk_app (strOk_app (ofString_ok _) (join_ok (ofString_ok _) (shownAll_ok xs (by simpa [PyData.canLay0] using h) (by simpa [PyData.showable] using k)))) (ofString_ok _)
  | .tuple xs, h, k => by
    rw [PyData.shown_tuple]
    exact strOk_app (strOk_app (ofString_ok _) (join_ok (ofString_ok _) (shownAll_ok xs (by simpa [PyData.canLay0] using h) (by simpa [PyData.showable] using k)))) (ofString_ok _)
  | .dict _, h, _ => by cases h
theorem shownAll_ok : ∀ ps : List PyData, PyData.canLayAll0 ps = true → PyData.showableAll ps = true → ∀ t ∈ PyData.shownAll ps, PyData.strOk t = true
  | [], _, _, t, ht => by rw [PyData.shownAll_nil] at ht; cases ht
  | p :: ps, h, k, t, ht => by
    rw [PyData.shownAll_cons] at ht
    have h' : p.canLay0 = true ∧ PyData.canLayAll0 ps = true := by simpa [PyData.canLayAll0] using h
    have k' : p.showable = true ∧ PyData.showableAll ps = true := by simpa [PyData.showableAll] using k
    rcases List.mem_cons.mp ht with rfl | ht
    · exact shown_ok p h'.1 k'.1
    · exact shownAll_ok ps h'.2 k'.2 t ht
end
mutual
theorem noDict_of : ∀ p : PyData, p.canLay0 = true → p.hasDict = false
  | .none, _ => rfl
  | .bool b, _ => rfl
  | .int i, _ => rfl
  | .str x, _ => rfl
  | .list xs, h => by simpa [PyData.hasDict] using noDictAll_of xs (by simpa [PyData.canLay0] using h)
  | .tuple xs, h => by simpa [PyData.hasDict] using noDictAll_of xs (by simpa [PyData.canLay0] using h)
  | .dict _, h => by cases h
theorem noDictAll_of : ∀ ps : List PyData, PyData.canLayAll0 ps = true → PyData.hasDictAll ps = false
  | [], _ => rfl
  | p :: ps, h => by
    have h' : p.canLay0 = true ∧ PyData.canLayAll0 ps = true := by simpa [PyData.canLayAll0] using h
    simp [PyData.hasDictAll, noDict_of p h'.1, noDictAll_of ps h'.2]
end
section
variable {X : Cx}
def reprP (p : PyData) : Option D := if p.showable = true ∧ p.shown.length ≤ 1000000 then some (.str p.shown) else none
def reprD : List D → Option D := one fun d => (pyD d).bind reprP
theorem call_reprD (hg : X.A.guards = some []) (hu : X.A.units + 66 < cLine) : CallR X (.builtin "repr") (rDs X.K reprD) := by
  intro pins s σ H xs us Q I r ⟨G, A, S, ds, z, R, hds, hgs, q⟩
  obtain ⟨d, rfl, hg1⟩ := one_eq hgs
  obtain ⟨x, rfl, hd⟩ := hds.one
  clear hgs hds
  obtain ⟨p, hp, hr⟩ := Option.bind_eq_some_iff.mp hg1
  clear hg1
  unfold reprP at hr
  split at hr
  · rename_i hc
    obtain ⟨h1, h2⟩ := hc
    cases hr
    obtain ⟨a1, b1⟩ := dv_shaped R hd hp
    obtain ⟨u, rfl, rx⟩ := vals1 r
    obtain ⟨as, rd⟩ := Dp.reads I p x u a1 rx
    have lay := SeqAt.canLay_of_shaped b1
    have dep := SeqAt.depth_of_shaped b1
    have ok := shown_ok p lay h1
    have fin := q G H _ Ex.refl R (.str _ ok)
    have big : p.shown.length ≤ sizeLine := small_line h2
    cases rd with
    | none => exact PySem.P.repr_of_none ⟨.str _, H, I.tok _, ⟨_, rfl⟩, by simpa [PyData.shown_none] using fin⟩
    | bool b => exact PySem.P.repr_of_bool ⟨.str _, H, I.tok _, ⟨_, rfl⟩, by simpa [PyData.shown_bool] using fin⟩
    | int i t => exact PySem.P.repr_of_int (by simpa [PyData.showable] using h1) ⟨.str _, H, I.tok _, ⟨_, rfl⟩, by simpa [PyData.shown_int] using fin⟩
    | str y t => exact PySem.P.repr_of_str ⟨.str _, H, I.tok _, ⟨_, rfl⟩, by simpa [PyData.shown_str] using fin⟩ (by simpa [PyData.shown_str] using big)
    | list e1 e2 e3 e4 =>
      exact repr_of_reads' (.list e1 e2 e3 e4) h1 (fun z => by rw [noDict_of _ lay] at z; cases z) hg (by omega) (fun _ _ z => z) (fun h' u tk k => ⟨.str _, H, I.kept k, ⟨u, rfl⟩, fin⟩) big
    | tuple e1 e2 e3 e4 =>
      exact repr_of_reads' (.tuple e1 e2 e3 e4) h1 (fun z => by rw [noDict_of _ lay] at z; cases z) hg (by omega) (fun _ _ z => z) (fun h' u tk k => ⟨.str _, H, I.kept k, ⟨u, rfl⟩, fin⟩) big
    | dict _ _ _ _ _ => cases lay
  · cases hr
end
end FL
end
section
set_option Elab.async false
set_option linter.all false
set_option maxRecDepth 100000
set_option autoImplicit false
set_option maxHeartbeats 2000000
namespace FL
open PySem PySem.Spec PyProof.Rows L2
/-! ## methods of built-in types, the type told by the value -/
structure MOk (name : Str) (T id : String) : Prop where
  pa : PlainAttrs T
  slot : Slot T name id
  ty : typeOf (.builtin id) = pure (.type "method_descriptor")
def HasTy (X : Cx) (x : V) (T : String) (H : Hp) : Prop := ∀ (pins : List (Addr × Obj)) (s : Shared) (σ : L2.St) (v : Value), Inv X pins σ H s → RelV x v → s.TypeIs v T ∧ ∀ a, v = .ref a → ∃ ob, s.heap.get? a = some ob ∧ ob.dict = none
section
variable {X : Cx} {EE : XK} {o e : Expr} {es : List Expr} {name : Str} {apos cpos : Pos}
def tBMU (X : Cx) (name : Str) (to : TE) (t : TA) : TE := fun σ H Q => to σ H fun x H1 => ∃ T id r, MOk name T id ∧ HasTy X x T H1 ∧ MtR X id r ∧ t σ H1 fun xs H2 => r x xs H2 Q
theorem pe_bmU {to : TE} {t : TA} (ho : PE X o to) (ha : PA X (e :: es) t) (hbase : attributeBase o name X.env (eval o X.env) = eval o X.env := by rfl)
    (hfew : ((backTo cpos (starEach (e :: es) X.env)).all (fun x => !x.1) && (backToKw cpos (keywordEach [] X.env)).all (fun x => x.1.isSome)
      && decide ((e :: es).length + ([] : List Keyword).length + (if ([] : List Keyword).isEmpty then 0 else 1) < 30)) = true := by rfl)
    (hline : (apos.endLine == cpos.line) = true := by rfl) (hs : starEach (e :: es) X.env = (false, eval e X.env) :: starEach es X.env := by rfl) (hplain : (backTo cpos (starEach es X.env)).any (·.1) = false := by rfl) :
    PE X (.Call (.Attribute o name apos) (e :: es) [] cpos) (tBMU X name to t) := by
  refine ⟨fun pins s σ H Q I h => ?_⟩
  refine wpAny_Call_method_late hbase hfew hline rfl (thn (ho.run pins s σ H _ I h) fun v s1 ⟨x, H1, I1, r1, T, id, r, m, ty, hm, q1⟩ => ?_)
  obtain ⟨h1, h2⟩ := ty pins s1 σ v I1 r1
  refine ⟨T, id, m.pa, m.slot, m.ty, h1, h2, ?_⟩
  have hA := ha.run cpos pins s1 σ H1 _ I1 q1
  rw [hs] at hA ⊢
  refine Calls.callWith_builtin (by show (false || (backTo cpos (starEach es X.env)).any (·.1)) = false; rw [hplain] <;> rfl) (Calls.evalArgs_plain ?_)
  exact thn hA fun us s2 ⟨vs, H2, I2, r2, q2⟩ => hm pins s2 σ H2 x vs v us Q I2 r1 r2 q2
def tyD : D → Option String
  | .str _ => some "str"
  | .lst _ => some "list"
  | .tup _ => some "tuple"
  | .dct _ => some "dict"
  | _ => none
theorem hasTy_of {G H : Hp} {A : List Addr} {S : Sto} {x : V} {d : D} {T : String} (R : Rel X.K A S G H) (h : Dv X.K G A H x d) (e : tyD d = some T) : HasTy X x T H := by
  intro pins s σ v I r
  cases d with
  | str z =>
    cases e
    obtain ⟨rfl, _⟩ := h.strE
    exact tyV_is I r rfl
  | lst ds =>
    cases e
    obtain ⟨a, vs, rfl, s1, _⟩ := h.lstE R
    exact tyV_is I r (.inl ⟨rfl, vs, s1.sq⟩)
  | tup ds =>
    cases e
    obtain ⟨a, vs, rfl, s1, _⟩ := h.tupE R
    cases r
    rcases s1 with ⟨us, s1⟩ | ⟨ob, its, n, h1, h2, h3, _⟩
    · obtain ⟨g, _⟩ := I.hok a _ s1
      exact ⟨⟨_, g, rfl⟩, fun b eb => by cases eb; exact ⟨_, g, rfl⟩⟩
    · exact ⟨⟨ob, I.kIn a ob h1, h2⟩, fun b eb => by cases eb; exact ⟨ob, I.kIn _ ob h1, h3⟩⟩
  | dct ds =>
    cases e
    obtain ⟨a, vs, rfl, s1, _⟩ := h.dctE R
    exact tyV_is I r (.inr (.inr (.inl ⟨rfl, .inl ⟨vs, s1⟩⟩)))
  | _ => cases e
def tyIn (ts : List String) (d : D) : Option String := (tyD d).bind fun T => if T ∈ ts then some T else none
def eMeth (ts : List String) (g : D → List D → Option D) (fo : FEx) (fa : FAx) : FEx := fun r => bnd (fo r) fun x => bnd (fun S => opt (tyIn ts (vw S x)) S) fun T => bnd (fa r) fun xs => fun S => opt (if tyD (vw S x) = some T then g (vw S x) (xs.map (vw S)) else none) S
def eMeth0 (ts : List String) (g : D → List D → Option D) (fo : FEx) : FEx := fun r => bnd (fo r) fun x => fun S => opt ((tyIn ts (vw S x)).bind fun _ => g (vw S x) []) S
variable {fo : FEx} {fs : FAx}
/-! ### single methods -/
end
end FL
end
section
set_option Elab.async false
set_option linter.all false
set_option maxRecDepth 100000
set_option autoImplicit false
set_option maxHeartbeats 2000000
namespace FL
open PySem PySem.Spec PyProof.Rows L2
/-! ## isinstance -/
inductive Ty where
  | int | bool | str | tuple | list | dict
def Ty.nm : Ty → String
  | .int => "int"
  | .bool => "bool"
  | .str => "str"
  | .tuple => "tuple"
  | .list => "list"
  | .dict => "dict"
def isiB : Ty → D → Option Bool
  | t, .non => some false
  | .int, .bl _ => some true
  | .bool, .bl _ => some true
  | _, .bl _ => some false
  | .int, .int _ => some true
  | _, .int _ => some false
  | .str, .str _ => some true
  | _, .str _ => some false
  | .list, .lst _ => some true
  | _, .lst _ => some false
  | .tuple, .tup _ => some true
  | _, .tup _ => some false
  | .dict, .dct _ => some true
  | _, .dct _ => some false
  | _, .ref _ => none
  | _, .fn _ _ => none
  | _, .obj _ _ _ => none
def isiD (t : Ty) (d : D) : Option D := (isiB t d).map .bl
def nmD : D → Option String
  | .non => some "NoneType"
  | .bl _ => some "bool"
  | .int _ => some "int"
  | .str _ => some "str"
  | .lst _ => some "list"
  | .tup _ => some "tuple"
  | .dct _ => some "dict"
  | .ref _ => none
  | .fn _ _ => none
  | .obj _ _ _ => none
theorem kit_all : ∀ n ∈ ["NoneType", "bool", "int", "str", "list", "tuple", "dict"], ∀ t ∈ ["int", "bool", "str", "tuple", "list", "dict"], kitB n t = some (n == t || (n == "bool" && t == "int")) := by decide +kernel
theorem isi_kit {t : Ty} {d : D} {b : Bool} {n : String} (h : isiB t d = some b) (hn : nmD d = some n) : kitB n t.nm = some b := by
  have k : kitB n t.nm = some (n == t.nm || (n == "bool" && t.nm == "int")) := by
    refine kit_all n ?_ t.nm ?_
    · cases d <;> simp [nmD] at hn <;> subst hn <;> decide
    · cases t <;> decide
  rw [k]
  cases d <;> simp [nmD] at hn <;> subst hn <;> cases t <;> simp [isiB] at h <;> subst h <;> decide
section
variable {X : Cx} {EE : XK}
theorem tyx_of {G H : Hp} {A : List Addr} {S : Sto} {x : V} {d : D} {n : String} (R : Rel X.K A S G H) (h : Dv X.K G A H x d) (e : nmD d = some n) : TyX X.K H x (.type n) := by
  cases d with
  | non => cases e; rw [h.nonE]; exact .base .non
  | bl b => cases e; rw [h.blE]; exact .base (.bl b)
  | int i => cases e; rw [h.intE]; exact .base (.int i)
  | str z => cases e; rw [h.strE.1]; exact .base (.str z)
  | lst ds =>
    cases e
    obtain ⟨a, vs, rfl, s1, _⟩ := h.lstE R
    rcases s1 with (s1 | ⟨o, s1⟩) | ⟨its, m, s1, _⟩
    · exact .base (.lst s1)
    · exact .base (.frz s1)
    · exact .kList s1 rfl
  | tup ds =>
    cases e
    obtain ⟨a, vs, rfl, s1, _⟩ := h.tupE R
    rcases s1 with ⟨us, s1⟩ | ⟨ob, its, n, h1, h2, h3, _⟩
    · exact .fTuple s1
    · exact .kTuple h1 h2
  | dct ds =>
    cases e
    obtain ⟨a, vs, rfl, s1, _⟩ := h.dctE R
    exact .base (.dK s1)
  | ref n => cases e
  | fn _ _ => cases e
  | obj _ _ _ => cases e
theorem fe_isi {a b : Expr} {fa : FEx} {p pos : Pos} (t : Ty) (ha : FE X EE a fa) (hb : PE X b (tC (.ty t.nm))) (hg : Gl X "isinstance") (hm : X.mg "isinstance" = none)
    (he : starEach [a, b] X.env = (false, eval a X.env) :: starEach [b] X.env := by rfl) (he2 : starEach [b] X.env = (false, eval b X.env) :: starEach [] X.env := by rfl) (hpl : (backTo pos (starEach [b] X.env)).any (·.1) = false := by rfl) :
    FE X EE (.Call (.Name "isinstance" p) [a, b] [] pos) (eUn (isiD t) fa) := by
  refine pe_weak (pe_callB call_isi hg hm (by decide +kernel) (pa_cons ha (pa_cons hb pa_nil he2) he) (by decide) (by decide) he hpl) fun s H Q ⟨r, G, A, S, hr, hR, q⟩ => ?_
  refine re_bnd hr hR q (fun _ _ z => z) fun G1 A1 H1 x d S1 a1 r1 R1 n1 q1 => ?_
  rw [post_opt] at q1
  obtain ⟨z, hz, q1⟩ := q1
  obtain ⟨k, hk, rfl⟩ := Option.map_eq_some_iff.mp hz
  have hn : ∃ n, nmD (vw S1 d) = some n := by
    cases e : vw S1 d <;> first | exact ⟨_, rfl⟩ | (rw [e] at hk; simp [isiB] at hk)
  obtain ⟨n, hn⟩ := hn
  exact ⟨x, .ty t.nm, .type n, .type t.nm, k, rfl, .ty _, tyx_of R1 (R1.view n1) hn, kit_ty (isi_kit hk hn), q1 G1 A1 H1 _ a1 R1 (.bl k)⟩
/-! ## targets -/
def gName' (i : Nat) : FGx := fun d r => ret (r.set i (some d))
theorem fg_name {i : Nat} {tg : Expr} (h : PG X tg (gName i)) : FG X EE tg (gName' i) := by
  refine pg_weak h fun v s H Q ⟨r, G, A, S, d, hr, hR, hd, q⟩ => ?_
  exact q G A H _ Ex.refl hR (hr.set hd)
def gsNil : List D → Env → M Env := fun ds r => if ds = [] then ret r else fun _ => .no
def gsCons (f : FGx) (g : List D → Env → M Env) : List D → Env → M Env := fun ds r => match ds with
  | d :: ds => bnd (f d r) fun r' => g ds r'
  | [] => fun _ => .no
theorem fgs_nil : FGs X EE [] gsNil := by
  refine pgs_weak pgs_nil fun vs s H Q ⟨r, G, A, S, ds, hr, hR, hd, q⟩ => ?_
  unfold gsNil at q
  cases hd with
  | nil => exact ⟨rfl, q G A H _ Ex.refl hR hr⟩
  | cons a b => exact q.elim
theorem fgs_cons {e : Expr} {es : List Expr} {f : FGx} {g : List D → Env → M Env} (h1 : FG X EE e f) (h2 : FGs X EE es g)
    (hs : (assignEach (e :: es) X.env).map (·.2) = assign e X.env :: (assignEach es X.env).map (·.2) := by rfl) : FGs X EE (e :: es) (gsCons f g) := by
  refine pgs_weak (pgs_cons h1 h2 hs) fun vs s H Q ⟨r, G, A, S, ds, hr, hR, hd, q⟩ => ?_
  cases hd with
  | nil => exact q.elim
  | @cons v vs d ds a b =>
    refine ⟨v, vs, rfl, ?_⟩
    rw [show gsCons f g (d :: ds) r = bnd (f d r) fun r' => g ds r' from rfl, post_bnd] at q
    refine ⟨r, G, A, S, d, hr, hR, a, q.mono (fun r' S' q' => ?_) fun _ _ z => z⟩
    intro G1 A1 H1 s1 a1 R1 e1
    exact ⟨r', G1, A1, S', ds, e1, R1, b.mono a1.g a1.p, post_on a1 q' fun _ _ z => z.mono a1⟩
/-- unpacking a tuple that is read -/
def gTup' (n : Nat) (g : List D → Env → M Env) : FGx := fun d r => match d with
  | .tup ds => if ds.length = n then g ds r else fun _ => .no
  | _ => fun _ => .no
theorem fg_tup {es : List Expr} {k : Nat} {g : List D → Env → M Env} {n : Nat} {pos : Pos} (hc : X.calm = true) (h : FGs X EE es g) (hn : (assignEach es X.env).length = n := by rfl) (hst : (assignEach es X.env).findIdx? (·.1) = none := by rfl) : FG X EE (.Tuple es k pos) (gTup' n g) := by
  refine pg_weak (pg_tup hc h hn hst) fun v s H Q ⟨r, G, A, S, d, hr, hR, hd, q⟩ => ?_
  cases d with
  | tup ds =>
    unfold gTup' at q
    simp only at q
    split at q
    · rename_i hl
      obtain ⟨a, vs, rfl, s1, t1⟩ := (Dv.of hd : Dv X.K G A H v (.tup ds)).tupE hR
      exact ⟨a, vs, rfl, s1.sq, by rw [t1.length]; exact hl, r, G, A, S, ds, hr, hR, t1, q⟩
    · exact q.elim
  | _ => exact q.elim
/-! ## plain statements -/
def sAsg (f : FEx) (g : FGx) : FSx := fun r => bnd (f r) fun d => bnd (g d r) fun r' => ret (.nx r')
theorem to_asg {f : FEx} {g : FGx} : ∀ (T : Ends) s H, RS X EE (sAsg f g) T s H → tAsg (RE X EE f) (RG X EE g) T s H := by
  intro T s H ⟨r, G, A, S, hr, hR, q⟩
  refine re_bnd hr hR q (fun _ _ z => z) fun G1 A1 H1 x d S1 a1 r1 R1 n1 q1 => ?_
  rw [post_bnd] at q1
  refine ⟨r, G1, A1, S1, d, r1, R1, n1, q1.mono (fun r' S' q' => ?_) fun _ _ z => z.mono a1⟩
  exact QEnv.mono a1 q'
theorem fs_asg {tg e : Expr} {f : FEx} {g : FGx} {pos : Pos} (he : FE X EE e f) (hg : FG X EE tg g) (hs : swapsWithSole [tg] e pos.line X.env = pure false := by rfl) (hw : swappedStores [tg] e X.env = pure none := by rfl)
    (h1 : (assignEach [tg] X.env).map (·.2) = [assign tg X.env] := by rfl) : FS X EE (.Assign [tg] e pos) (sAsg f g) := ps_weak (ps_asg he hg hs hw h1) to_asg
theorem fs_set {i : Nat} {x : Str} {e : Expr} {f : FEx} {pos pos' : Pos} (hN : X.N.Nodup) (hi : X.N[i]? = some x) (hx : Loc X.env.scope x) (he : FE X EE e f) (hs : swapsWith e (some (.Name x pos')) pos.line X.env = pure false := by rfl) (hf : X.fn x = true ∨ X.env.scope.names.lookup x = some .local := by first | exact .inl rfl | exact .inr rfl | assumption) :
    FS X EE (.Assign [.Name x pos'] e pos) (sAsg f (gName' i)) := by
  refine ps_weak (ps_set hN hi hx he hs hf) fun T s H ⟨r, G, A, S, hr, hR, q⟩ => ?_
  refine re_bnd hr hR q (fun _ _ z => z) fun G1 A1 H1 x d S1 a1 r1 R1 n1 q1 => ?_
  exact q1 G1 A1 H1 _ a1 R1 (r1.set n1)
/-- a, b = x, y -/
def sPar (i j : Nat) (f : FAx) : FSx := fun r => bnd (f r) fun ds => match ds with
  | [d, e] => ret (.nx ((r.set i (some d)).set j (some e)))
  | _ => fun _ => .no
theorem fs_par {i j : Nat} {x y : Str} {a b : Expr} {fa : FAx} {px py pt pos : Pos} {kt k2 pt2} (hc : X.calm = true) (hN : X.N.Nodup) (hi : X.N[i]? = some x) (hj : X.N[j]? = some y) (hij : i ≠ j)
    (hx : X.env.scope.names.lookup x = some .local) (hy : X.env.scope.names.lookup y = some .local) (ha : FA X EE [a, b] fa)
    (hw : swappedStores [.Tuple [.Name x px, .Name y py] kt pt] (.Tuple [a, b] k2 pt2) X.env = pure (some [x, y]))
    (hs : swapsWithSole [.Tuple [.Name x px, .Name y py] kt pt] (.Tuple [a, b] k2 pt2) pos.line X.env = pure false := by rfl) :
    FS X EE (.Assign [.Tuple [.Name x px, .Name y py] kt pt] (.Tuple [a, b] k2 pt2) pos) (sPar i j fa) := by
  refine ps_weak (ps_par hc hN hi hj hij hx hy ha hw hs) fun T s H ⟨r, G, A, S, hr, hR, q⟩ => ?_
  refine ra_bnd hr hR q (fun _ _ z => z) fun G1 A1 H1 vs ds S1 a1 r1 R1 n1 q1 => ?_
  match ds, n1, q1 with
  | [d, e], nn, q1 =>
    cases nn with
    | cons m1 mm =>
      cases mm with
      | cons m2 m3 =>
        cases m3
        exact ⟨_, _, rfl, q1 G1 A1 H1 _ a1 R1 ((r1.set m1).set m2)⟩
  | [], _, q1 => exact q1.elim
  | [_], _, q1 => exact q1.elim
  | _ :: _ :: _ :: _, _, q1 => exact q1.elim
def sExpr (f : FEx) : FSx := fun r => bnd (f r) fun _ => ret (.nx r)
theorem fs_expr {e : Expr} {f : FEx} {pos : Pos} (he : FE X EE e f) (hs : swapsWith e none pos.line X.env = pure false := by rfl) : FS X EE (.Expr e pos) (sExpr f) := by
  refine ps_weak (ps_expr he hs) fun T s H ⟨r, G, A, S, hr, hR, q⟩ => ?_
  refine re_bnd hr hR q (fun _ _ z => z) fun G1 A1 H1 x d S1 a1 r1 R1 n1 q1 => ?_
  exact q1 G1 A1 H1 _ a1 R1 r1
def sRet (f : FEx) : FSx := fun r => bnd (f r) fun d => ret (.rt d)
theorem fs_ret {e : Expr} {f : FEx} {pos : Pos} (he : FE X EE e f) : FS X EE (.Return (some e) pos) (sRet f) := by
  refine ps_weak (ps_ret he) fun T s H ⟨r, G, A, S, hr, hR, q⟩ => ?_
  refine re_bnd hr hR q (fun _ _ z => z) fun G1 A1 H1 x d S1 a1 r1 R1 n1 q1 => ?_
  exact q1 G1 A1 H1 _ a1 R1 n1
def sRetN : FSx := fun _ => ret (.rt .non)
def sNext : FSx := fun r => ret (.nx r)
def sBreak : FSx := fun r => ret (.bk r)
def sCont : FSx := fun r => ret (.ct r)
/-- a statement that is not come to -/
def sNo : FSx := fun _ _ => .no
theorem fs_no {st : Stmt} : FS X EE st sNo := ps_weak ps_never fun T s H ⟨r, G, A, S, hr, hR, q⟩ => q
def sSeq (f g : FSx) : FSx := fun r => bnd (f r) fun fl => match fl with
  | .nx r' => g r'
  | fl => ret fl
theorem fss_nil : FSs X EE [] sNext := by
  refine pss_weak pss_nil fun T s H ⟨r, G, A, S, hr, hR, q⟩ => ?_
  exact q G A H _ Ex.refl hR hr
theorem fss_one {st : Stmt} {f : FSx} (h : FS X EE st f) : FSs X EE [st] f := pss_one h
theorem fss_cons {st : Stmt} {rest : List Stmt} {f g : FSx} (h1 : FS X EE st f) (h2 : FSs X EE rest g) : FSs X EE (st :: rest) (sSeq f g) := by
  refine pss_weak (pss_cons h1 h2) fun T s H ⟨r, G, A, S, hr, hR, q⟩ => ?_
  unfold sSeq at q
  rw [post_bnd] at q
  refine ⟨r, G, A, S, hr, hR, q.mono (fun fl S' q' => ?_) fun _ _ z => z⟩
  cases fl with
  | nx r' =>
    intro G1 A1 H1 s1 a1 R1 e1
    exact ⟨r', G1, A1, S', e1, R1, post_on a1 q' fun _ _ z => z.mono a1⟩
  | bk r' => exact q'
  | ct r' => exact q'
  | rt d => exact q'
def sIf (t : FTx) (f g : FSx) : FSx := fun r => bnd (t r) fun k => if k = true then f r else g r
theorem fs_if {c : Expr} {a b : List Stmt} {t : FTx} {f g : FSx} {pos : Pos} (hc : FT X EE c t) (ha : FSs X EE a f) (hb : FSs X EE b g) : FS X EE (.If c a b pos) (sIf t f g) := by
  refine ps_weak (ps_if hc ha hb) fun T s H ⟨r, G, A, S, hr, hR, q⟩ => ?_
  refine rt_bnd hr hR q (fun _ _ z => z) fun G1 A1 H1 k S1 a1 r1 R1 q1 => ?_
  cases k with
  | true => exact iteT ⟨r, G1, A1, S1, r1, R1, post_on a1 q1 fun _ _ z => z.mono a1⟩
  | false => exact iteF ⟨r, G1, A1, S1, r1, R1, post_on a1 q1 fun _ _ z => z.mono a1⟩
end
end FL
end
section
set_option Elab.async false
set_option linter.all false
set_option maxRecDepth 100000
set_option autoImplicit false
set_option maxHeartbeats 2000000
namespace FL
open PySem PySem.Spec PyProof.Rows L2
/-! ## what is walked -/
abbrev WR := Hp → List Addr → Hp → V → D → Prop
/-- a value that is told; one that can be unpacked -/
def WN (X : Cx) : WR := fun G A _ v d => Dn X.K G A v d
def WU (X : Cx) : WR := fun G A H v d => ∃ a vs ds, v = .ref a ∧ d = .tup ds ∧ SqT X.K H a vs ∧ DnAll X.K G A vs ds
/-- a later state -/
structure Lat (A : List Addr) (G : Hp) (A' : List Addr) (G' : Hp) : Prop where
  g : Same G G'
  p : Pre A A'
theorem Ex.lat {A A' : List Addr} {G G' H H' : Hp} (e : Ex A G H A' G' H') : Lat A G A' G' := ⟨e.g, e.p⟩
theorem Lat.trans {A A1 A2 : List Addr} {G G1 G2 : Hp} (a : Lat A G A1 G1) (b : Lat A1 G1 A2 G2) : Lat A G A2 G2 := ⟨a.g.trans b.g, a.p.trans b.p⟩
structure Yields (X : Cx) (W : WR) (G0 : Hp) (A0 : List Addr) (H0 : Hp) (J : It) (ds : List D) : Prop where
  stop : ∀ G A S H, Lat A0 G0 A G → Rel X.K A S G H → J.stop ds.length H
  go : ∀ G A S H i d, Lat A0 G0 A G → Rel X.K A S G H → ds[i]? = some d → J.go i H
  yld : ∀ G A S H i d x H', Lat A0 G0 A G → Rel X.K A S G H → ds[i]? = some d → J.yld i H x H' → ∃ G', Ex A G H A G' H' ∧ Rel X.K A S G' H' ∧ W G' A H' x d
theorem Yields.mono {X : Cx} {W : WR} {G0 G1 H0 H1 : Hp} {A0 A1 : List Addr} {J : It} {ds : List D} (e : Ex A0 G0 H0 A1 G1 H1) (y : Yields X W G0 A0 H0 J ds) : Yields X W G1 A1 H1 J ds :=
  ⟨fun G A S H a => y.stop G A S H (e.lat.trans a), fun G A S H i d a => y.go G A S H i d (e.lat.trans a), fun G A S H i d x H' a => y.yld G A S H i d x H' (e.lat.trans a)⟩
def RI (X : Cx) (EE : XK) (W : WR) (f : FAx) : TI := fun s H K => ∃ r G A S, EnvR X.K G A s r ∧ Rel X.K A S G H ∧ (f r S).post (fun ds S' => ∀ G' A' H' J, Ex A G H A' G' H' → Rel X.K A' S' G' H' → Yields X W G' A' H' J ds → K J H') (QE X.K X.mg EE G A H)
abbrev FI (X : Cx) (EE : XK) (W : WR) (tg iter : Expr) (f : FAx) : Prop := PI X tg iter (RI X EE W f)
theorem pi_weak {X : Cx} {tg iter : Expr} {t t' : TI} (h : PI X tg iter t) (w : ∀ s H K, t' s H K → t s H K) : PI X tg iter t' := ⟨fun pins s σ H Q I q => h.run pins s σ H Q I (w _ _ _ q)⟩
def RGW (X : Cx) (EE : XK) (W : WR) (f : FGx) : TG := fun v s H Q => ∃ r G A S d, EnvR X.K G A s r ∧ Rel X.K A S G H ∧ W G A H v d ∧ (f d r S).post (QEnv X.K G A H Q) (QE X.K X.mg EE G A H)
abbrev FGW (X : Cx) (EE : XK) (W : WR) (tg : Expr) (f : FGx) : Prop := PG X tg (RGW X EE W f)
section
variable {X : Cx} {EE : XK}
theorem fgw_n {tg : Expr} {f : FGx} (h : FG X EE tg f) : FGW X EE (WN X) tg f := h
theorem fgw_u {es : List Expr} {k : Nat} {g : List D → Env → M Env} {n : Nat} {pos : Pos} (hc : X.calm = true) (h : FGs X EE es g) (hn : (assignEach es X.env).length = n := by rfl) (hst : (assignEach es X.env).findIdx? (·.1) = none := by rfl) : FGW X EE (WU X) (.Tuple es k pos) (gTup' n g) := by
  refine pg_weak (pg_tup hc h hn hst) fun v s H Q ⟨r, G, A, S, d, hr, hR, ⟨a, vs, ds, ev, ed, s1, t1⟩, q⟩ => ?_
  subst ev ed
  unfold gTup' at q
  simp only at q
  split at q
  · rename_i hl
    exact ⟨a, vs, rfl, s1, by rw [t1.length]; exact hl, r, G, A, S, ds, hr, hR, t1, q⟩
  · exact q.elim
/-! ## for -/
def loopD (b : FGx) (body : FSx) : List D → Env → M Fl
  | [], r => ret (.nx r)
  | d :: ds, r => bnd (b d r) fun r1 => bnd (body r1) fun fl => match fl with
    | .nx r' => loopD b body ds r'
    | .ct r' => loopD b body ds r'
    | .bk r' => ret (.nx r')
    | .rt v => ret (.rt v)
def sFor (fi : FAx) (b : FGx) (body : FSx) : FSx := fun r => bnd (fi r) fun ds => loopD b body ds r
theorem fs_for {W : WR} {tg iter : Expr} {body : List Stmt} {fi : FAx} {b : FGx} {fb : FSx} {pos : Pos} (hp : PassesOwn (model X.prog X.w) X.A X.env X.xe) (hc : X.calm = true) (hi : FI X EE W tg iter fi) (hg : FGW X EE W tg b) (hb : FSs X EE body fb)
    (hs : ∀ x, foldedSetIterable iter X.env x = pure x := by intro _; rfl) : FS X EE (.For tg iter body [] pos) (sFor fi b fb) := by
  refine ps_weak (ps_for hp hc hi hg hb hs) fun T s H ⟨r, G, A, S, hr, hR, q⟩ => ?_
  unfold sFor at q
  rw [post_bnd] at q
  refine ⟨r, G, A, S, hr, hR, q.mono (fun ds S1 q1 => ?_) fun _ _ z => z⟩
  intro G1 A1 H1 J e1 R1 Y
  refine ⟨fun i m s H => i + m = ds.length ∧ ∃ r' G' A' S', Ex A1 G1 H1 A' G' H ∧ EnvR X.K G' A' s r' ∧ Rel X.K A' S' G' H ∧ (loopD b fb (ds.drop i) r' S').post (QF X.K G' A' H T) (QE X.K X.mg EE G' A' H),
    ⟨ds.length, Nat.zero_add _, r, G1, A1, S1, Ex.refl, hr.mono e1.g e1.p, R1, post_on e1 q1 fun _ _ z => z.mono e1⟩, ?_⟩
  rintro i m s' H' ⟨hm, r', G', A', S', ex, hr', hR', q'⟩
  by_cases hi : i < ds.length
  · have ed : ds[i]? = some ds[i] := List.getElem?_eq_getElem hi
    rw [List.drop_eq_getElem_cons hi] at q'
    refine .inr ⟨Y.go G' A' S' H' i _ ex.lat hR' ed, fun s2 H2 => ∃ r'' G'' A'' S'', Ex A1 G1 H1 A'' G'' H2 ∧ EnvR X.K G'' A'' s2 r'' ∧ Rel X.K A'' S'' G'' H2 ∧ (loopD b fb (ds.drop (i + 1)) r'' S'').post (QF X.K G'' A'' H2 T) (QE X.K X.mg EE G'' A'' H2),
      fun s2 H2 h2 => ⟨m - 1, by omega, by omega, h2⟩, fun x H2 hy => ?_⟩
    obtain ⟨G2, ex2, R2, w2⟩ := Y.yld G' A' S' H' i _ x H2 ex.lat hR' ed hy
    rw [show loopD b fb (ds[i] :: ds.drop (i + 1)) r' = bnd (b ds[i] r') fun r1 => bnd (fb r1) fun fl => match fl with
      | .nx r' => loopD b fb (ds.drop (i + 1)) r'
      | .ct r' => loopD b fb (ds.drop (i + 1)) r'
      | .bk r' => ret (.nx r')
      | .rt v => ret (.rt v) from rfl, post_bnd] at q'
    refine ⟨r', G2, A', S', ds[i], hr'.mono ex2.g ex2.p, R2, w2, q'.mono (fun r3 S3 q3 => ?_) fun _ _ z => z.mono ex2⟩
    intro G3 A3 H3 s3 e3 R3 hr3
    rw [post_bnd] at q3
    refine ⟨r3, G3, A3, S3, hr3, R3, q3.mono (fun fl S4 q4 => ?_) fun _ _ z => z.mono (ex2.trans e3)⟩
    have again : ∀ r4, (loopD b fb (ds.drop (i + 1)) r4 S4).post (QF X.K G' A' H' T) (QE X.K X.mg EE G' A' H') → QEnv X.K G3 A3 H3 (fun s2 H2 => ∃ r'' G'' A'' S'', Ex A1 G1 H1 A'' G'' H2 ∧ EnvR X.K G'' A'' s2 r'' ∧ Rel X.K A'' S'' G'' H2 ∧ (loopD b fb (ds.drop (i + 1)) r'' S'').post (QF X.K G'' A'' H2 T) (QE X.K X.mg EE G'' A'' H2)) r4 S4 := by
      intro r4 q4 G4 A4 H4 s4 e4 R4 hr4
      have all := (ex2.trans e3).trans e4
      exact ⟨r4, G4, A4, S4, ex.trans all, hr4, R4, post_on all q4 fun _ _ z => z.mono all⟩
    cases fl with
    | nx r4 => exact again r4 q4
    | ct r4 => exact again r4 q4
    | bk r4 => exact QEnv.mono (ex2.trans e3) q4
    | rt d => exact QV.mono (ex2.trans e3) q4
  · have ei : i = ds.length := by omega
    rw [List.drop_of_length_le (by omega)] at q'
    refine .inl ⟨ei ▸ Y.stop G' A' S' H' ex.lat hR', q' G' A' H' s' Ex.refl hR' hr'⟩
/-! ## while -/
def whileN (t : FTx) (body : FSx) : Nat → Env → M Fl
  | 0, _ => fun _ => .no
  | n + 1, r => bnd (t r) fun k => if k = true then bnd (body r) fun fl => match fl with
    | .nx r' => whileN t body n r'
    | .ct r' => whileN t body n r'
    | .bk r' => ret (.nx r')
    | .rt v => ret (.rt v) else ret (.nx r)
/-- the outcome of enough turns -/
noncomputable def sWhile (t : FTx) (body : FSx) : FSx := fun r S => open Classical in if h : ∃ n, whileN t body n r S ≠ .no then whileN t body h.choose r S else .no
theorem fs_while {c : Expr} {body : List Stmt} {t : FTx} {fb : FSx} {pos : Pos} (hp : PassesOwn (model X.prog X.w) X.A X.env X.xe) (hc : FT X EE c t) (hb : FSs X EE body fb) : FS X EE (.While c body [] pos) (sWhile t fb) := by
  refine ps_weak (ps_while hp hc hb) fun T s H ⟨r, G, A, S, hr, hR, q⟩ => ?_
  unfold sWhile at q
  split at q
  · rename_i h
    refine ⟨fun m s H => ∃ r' G' A' S', EnvR X.K G' A' s r' ∧ Rel X.K A' S' G' H ∧ (whileN t fb m r' S').post (QF X.K G' A' H T) (QE X.K X.mg EE G' A' H), ⟨_, r, G, A, S, hr, hR, q⟩, ?_⟩
    rintro m s' H' ⟨r', G', A', S', hr', hR', q'⟩
    cases m with
    | zero => exact q'.elim
    | succ m =>
      refine rt_bnd hr' hR' q' (fun _ _ z => z) fun G1 A1 H1 k S1 a1 r1 R1 q1 => ?_
      cases k with
      | true =>
        rw [if_pos rfl] at q1 ⊢
        rw [post_bnd] at q1
        refine ⟨fun s2 H2 => ∃ r'' G'' A'' S'', EnvR X.K G'' A'' s2 r'' ∧ Rel X.K A'' S'' G'' H2 ∧ (whileN t fb m r'' S'').post (QF X.K G'' A'' H2 T) (QE X.K X.mg EE G'' A'' H2), fun s2 H2 h2 => ⟨m, Nat.lt_succ_self _, h2⟩, r', G1, A1, S1, r1, R1, ?_⟩
        refine q1.mono (fun fl S2 q2 => ?_) fun _ _ z => z.mono a1
        have again : ∀ r4, (whileN t fb m r4 S2).post (QF X.K G' A' H' T) (QE X.K X.mg EE G' A' H') → QEnv X.K G1 A1 H1 (fun s2 H2 => ∃ r'' G'' A'' S'', EnvR X.K G'' A'' s2 r'' ∧ Rel X.K A'' S'' G'' H2 ∧ (whileN t fb m r'' S'').post (QF X.K G'' A'' H2 T) (QE X.K X.mg EE G'' A'' H2)) r4 S2 := by
          intro r4 q4 G4 A4 H4 s4 e4 R4 hr4
          exact ⟨r4, G4, A4, S2, hr4, R4, post_on (a1.trans e4) q4 fun _ _ z => z.mono (a1.trans e4)⟩
        cases fl with
        | nx r4 => exact again r4 q2
        | ct r4 => exact again r4 q2
        | bk r4 => exact QEnv.mono a1 q2
        | rt d => exact QV.mono a1 q2
      | false =>
        rw [if_neg Bool.false_ne_true] at q1 ⊢
        exact q1 G1 A1 H1 s' a1 R1 r1
  · exact q.elim
end
end FL
end
section
set_option Elab.async false
set_option linter.all false
set_option maxRecDepth 100000
set_option autoImplicit false
set_option maxHeartbeats 2000000
namespace FL
open PySem PySem.Spec PyProof.Rows L2
/-! ## comprehensions -/
def wipeE (r : Env) : List Nat → Env
  | [] => r
  | v :: vs => (wipeE r vs).set v none
theorem wipeE_length (r : Env) : ∀ vs : List Nat, (wipeE r vs).length = r.length
  | [] => rfl
  | v :: vs => by unfold wipeE; rw [List.length_set, wipeE_length r vs]
theorem envR_wipe {K : PySem.W.Frag} {G : Hp} {A : List Addr} {s : L2.St} {r : Env} (h : EnvR K G A s r) : ∀ vs : List Nat, EnvR K G A (wipe s vs) (wipeE r vs)
  | [] => h
  | v :: vs => by
    have ih := envR_wipe h vs
    refine ⟨by rw [wipe_length, wipeE_length]; exact h.1, fun i d e => ?_⟩
    unfold wipeE at e
    unfold wipe
    by_cases hi : v = i
    · subst hi
      by_cases hv : v < (wipeE r vs).length
      · rw [List.getElem?_set_self hv] at e; cases e
      · rw [List.getElem?_eq_none (by simpa using hv)] at e; cases e
    · rw [List.getElem?_set_ne hi] at e ⊢
      exact ih.2 i d e
theorem wipe_set {s : L2.St} {i : Nat} {o : Option V} : ∀ {vs : List Nat}, i ∈ vs → wipe (s.set i o) vs = wipe s vs
  | [], h => by cases h
  | v :: vs, h => by
    unfold wipe
    by_cases hi : i ∈ vs
    · rw [wipe_set hi]
    · have hv : i = v := by
        rcases List.mem_cons.mp h with e | e
        · exact e
        · exact absurd e hi
      subst hv
      have key : ∀ ws : List Nat, i ∉ ws → wipe (s.set i o) ws = (wipe s ws).set i o := by
        intro ws
        induction ws with
        | nil => intro _; rfl
        | cons w ws ih =>
          intro hn
          have h1 : w ≠ i := fun z => hn (z ▸ List.mem_cons_self)
          unfold wipe
          rw [ih fun z => hn (List.mem_cons_of_mem _ z), List.set_comm _ _ (Ne.symm h1)]
      rw [key vs hi, List.set_set]
/-- a target within a comprehension: only its own slots are stored -/
def RGc (X : Cx) (W : WR) (vs : List Nat) (f : FGx) : TG := fun v s H Q => ∃ r G A S d, EnvR X.K G A s r ∧ Rel X.K A S G H ∧ W G A H v d ∧
  (f d r S).post (fun r' S' => ∀ G' A' H' s', Ex A G H A' G' H' → Rel X.K A' S' G' H' → EnvR X.K G' A' s' r' → wipe s' vs = wipe s vs → Q s' H') (fun _ _ => False)
def RGcs (X : Cx) (vs : List Nat) (f : List D → Env → M Env) : TGs := fun ws s H Q => ∃ r G A S ds, EnvR X.K G A s r ∧ Rel X.K A S G H ∧ DnAll X.K G A ws ds ∧
  (f ds r S).post (fun r' S' => ∀ G' A' H' s', Ex A G H A' G' H' → Rel X.K A' S' G' H' → EnvR X.K G' A' s' r' → wipe s' vs = wipe s vs → Q s' H') (fun _ _ => False)
section
variable {X : Cx} {EE : XK}
theorem fgc_name {i : Nat} {vs : List Nat} {tg : Expr} (h : PG X tg (gName i)) (hv : i ∈ vs := by decide) : PG X tg (RGc X (WN X) vs (gName' i)) := by
  refine pg_weak h fun v s H Q ⟨r, G, A, S, d, hr, hR, hd, q⟩ => ?_
  exact q G A H _ Ex.refl hR (hr.set hd) (wipe_set hv)
theorem fgcs_nil {vs : List Nat} : PGs X [] (RGcs X vs gsNil) := by
  refine pgs_weak pgs_nil fun ws s H Q ⟨r, G, A, S, ds, hr, hR, hd, q⟩ => ?_
  unfold gsNil at q
  cases hd with
  | nil => exact ⟨rfl, q G A H _ Ex.refl hR hr rfl⟩
  | cons a b => exact q.elim
theorem fgcs_cons {vs : List Nat} {e : Expr} {es : List Expr} {f : FGx} {g : List D → Env → M Env} (h1 : PG X e (RGc X (WN X) vs f)) (h2 : PGs X es (RGcs X vs g))
    (hs : (assignEach (e :: es) X.env).map (·.2) = assign e X.env :: (assignEach es X.env).map (·.2) := by rfl) : PGs X (e :: es) (RGcs X vs (gsCons f g)) := by
  refine pgs_weak (pgs_cons h1 h2 hs) fun ws s H Q ⟨r, G, A, S, ds, hr, hR, hd, q⟩ => ?_
  cases hd with
  | nil => exact q.elim
  | @cons v ws d ds a b =>
    refine ⟨v, ws, rfl, ?_⟩
    rw [show gsCons f g (d :: ds) r = bnd (f d r) fun r' => g ds r' from rfl, post_bnd] at q
    refine ⟨r, G, A, S, d, hr, hR, a, q.mono (fun r' S' q' => ?_) fun _ _ z => z⟩
    intro G1 A1 H1 s1 a1 R1 e1 w1
    refine ⟨r', G1, A1, S', ds, e1, R1, b.mono a1.g a1.p, q'.mono (fun r2 S2 q2 => ?_) fun _ _ z => z⟩
    intro G2 A2 H2 s2 a2 R2 e2 w2
    exact q2 G2 A2 H2 s2 (a1.trans a2) R2 e2 (w2.trans w1)
theorem fgc_u {vs : List Nat} {es : List Expr} {k : Nat} {g : List D → Env → M Env} {n : Nat} {pos : Pos} (hc : X.calm = true) (h : PGs X es (RGcs X vs g)) (hn : (assignEach es X.env).length = n := by rfl) (hst : (assignEach es X.env).findIdx? (·.1) = none := by rfl) : PG X (.Tuple es k pos) (RGc X (WU X) vs (gTup' n g)) := by
  refine pg_weak (pg_tup hc h hn hst) fun v s H Q ⟨r, G, A, S, d, hr, hR, ⟨a, ws, ds, ev, ed, s1, t1⟩, q⟩ => ?_
  subst ev ed
  unfold gTup' at q
  simp only at q
  split at q
  · rename_i hl
    exact ⟨a, ws, rfl, s1, by rw [t1.length]; exact hl, r, G, A, S, ds, hr, hR, t1, q⟩
  · exact q.elim
abbrev FTs (X : Cx) (ifs : List Expr) (f : FTx) : Prop := PTs X ifs (RT X E0 f)
def tTrue : FTx := fun _ => ret true
theorem fts_nil : FTs X [] tTrue := ⟨fun pins s σ H Q I ⟨r, G, A, S, hr, hR, q⟩ => pts_nil.run pins s σ H Q I (q G A H Ex.refl hR)⟩
theorem fts_one {c : Expr} {t : FTx} (h : FT X E0 c t) : FTs X [c] t := pts_one h
/-- nothing is raised -/
def noEx {α : Type} (m : M α) : M α := fun S => match m S with
  | .ok a S' => .ok a S'
  | _ => .no
theorem post_noEx {α : Type} {m : M α} {S : Sto} {Q : α → Sto → Prop} {E E' : Exn → Sto → Prop} (h : (noEx m S).post Q E) : (m S).post Q E' := by
  unfold noEx at h
  cases e : m S with
  | ok a S' => rw [e] at h; exact h
  | ex x S' => rw [e] at h; exact h.elim
  | no => rw [e] at h; exact h.elim
def compD (b : FGx) (t : FTx) (e : FEx) (r0 : Env) : List D → List D → M (List D)
  | [], acc => ret acc
  | d :: ds, acc => bnd (noEx (b d r0)) fun r1 => bnd (noEx (t r1)) fun k => if k = true then bnd (noEx (e r1)) fun x => if acc.length < 1000000 then compD b t e r0 ds (acc ++ [x]) else fun _ => .no else compD b t e r0 ds acc
def eCompL (vs : List Nat) (fi : FAx) (b : FGx) (t : FTx) (e : FEx) : FAx := fun r => bnd (fi r) fun ds => compD b t e (wipeE r vs) ds []
/-- the one loop of a comprehension -/
theorem comp_loop {W : WR} {vs : List Nat} {b : FGx} {t : FTx} {e : FEx} {s : L2.St} {r : Env} {ds : List D} {G1 H1 : Hp} {A1 : List Addr} {J : It} {L : Addr} {PQ : List D → Sto → Prop} {PE' : Exn → Sto → Prop} {Qd : Hp → Prop}
    (hr : EnvR X.K G1 A1 s r) (hL0 : H1 L = none) (Y : Yields X W G1 A1 H1 J ds)
    (fin : ∀ G' A' H' S' acc accv, Ex A1 G1 H1 A' G' H' → L ∉ A' → G' L = none → H' L = some (.lst accv) → DnAll X.K G' A' accv acc → Rel X.K A' S' G' H' → PQ acc S' → Qd H') :
    ∀ (i : Nat) (H : Hp), i ≤ ds.length → (∃ G' A' S' acc accv, Ex A1 G1 H1 A' G' H ∧ L ∉ A' ∧ G' L = none ∧ H L = some (.lst accv) ∧ DnAll X.K G' A' accv acc ∧ Rel X.K A' S' G' H ∧ (compD b t e (wipeE r vs) (ds.drop i) acc S').post PQ PE') →
      (J.stop i H ∧ Qd H) ∨ (J.go i H ∧ i < ds.length ∧ ∀ x H', J.yld i H x H' → RGc X W vs b x (wipe s vs) H' fun s2 H2 => wipe s2 vs = wipe s vs ∧ RT X E0 t s2 H2 fun k H3 =>
        if k = true then RE X E0 e s2 H3 fun y H4 => ∃ acc, H4 L = some (.lst acc) ∧ acc.length < sizeLine ∧
          (∃ G' A' S' ac accv, Ex A1 G1 H1 A' G' (upd H4 L (.lst (acc ++ [y]))) ∧ L ∉ A' ∧ G' L = none ∧ upd H4 L (.lst (acc ++ [y])) L = some (.lst accv) ∧ DnAll X.K G' A' accv ac ∧ Rel X.K A' S' G' (upd H4 L (.lst (acc ++ [y]))) ∧ (compD b t e (wipeE r vs) (ds.drop (i + 1)) ac S').post PQ PE')
        else (∃ G' A' S' acc accv, Ex A1 G1 H1 A' G' H3 ∧ L ∉ A' ∧ G' L = none ∧ H3 L = some (.lst accv) ∧ DnAll X.K G' A' accv acc ∧ Rel X.K A' S' G' H3 ∧ (compD b t e (wipeE r vs) (ds.drop (i + 1)) acc S').post PQ PE')) := by
  rintro i H hle ⟨G', A', S', acc, accv, ex, hL, gL, HL, na, hR', q'⟩
  by_cases hi : i < ds.length
  · have ed : ds[i]? = some ds[i] := List.getElem?_eq_getElem hi
    rw [List.drop_eq_getElem_cons hi] at q'
    refine .inr ⟨Y.go G' A' S' H i _ ex.lat hR' ed, hi, fun x H2 hy => ?_⟩
    obtain ⟨G2, ex2, R2, w2⟩ := Y.yld G' A' S' H i _ x H2 ex.lat hR' ed hy
    rw [show compD b t e (wipeE r vs) (ds[i] :: ds.drop (i + 1)) acc = bnd (noEx (b ds[i] (wipeE r vs))) fun r1 => bnd (noEx (t r1)) fun k => if k = true then bnd (noEx (e r1)) fun x => if acc.length < 1000000 then compD b t e (wipeE r vs) (ds.drop (i + 1)) (acc ++ [x]) else fun _ => .no else compD b t e (wipeE r vs) (ds.drop (i + 1)) acc from rfl, post_bnd] at q'
    have ex12 := ex.trans ex2
    refine ⟨wipeE r vs, G2, A', S', ds[i], (envR_wipe hr vs).mono ex12.g ex12.p, R2, w2, (post_noEx q').mono (fun r3 S3 q3 => ?_) fun _ _ z => z⟩
    intro G3 A3 H3 s3 e3 R3 hr3 hw3
    have hw : wipe (wipe s vs) vs = wipe s vs := by
      clear hw3 hr3 q'
      have key : ∀ ws us : List Nat, (∀ x ∈ us, x ∈ ws) → wipe (wipe s us) ws = wipe s ws := by
        intro ws us
        induction us with
        | nil => intro _; rfl
        | cons u us ih =>
          intro hm
          have e1 : wipe s (u :: us) = (wipe s us).set u none := rfl
          rw [e1, wipe_set (hm u List.mem_cons_self), ih fun x hx => hm x (List.mem_cons_of_mem _ hx)]
      exact key vs vs fun x hx => hx
    refine ⟨hw3.trans hw, ?_⟩
    rw [post_bnd] at q3
    refine ⟨r3, G3, A3, S3, hr3, R3, (post_noEx q3).mono (fun k S4 q4 => ?_) fun _ _ z => z⟩
    intro G4 A4 H4 e4 R4
    have e24 := (ex2.trans e3).trans e4
    obtain ⟨n4, L4⟩ := e24.f L _ hL HL
    have g4 := e24.k L _ HL gL
    cases k with
    | true =>
      rw [if_pos rfl] at q4 ⊢
      rw [post_bnd] at q4
      refine ⟨r3, G4, A4, S4, hr3.mono e4.g e4.p, R4, (post_noEx q4).mono (fun d5 S5 q5 => ?_) fun _ _ z => z⟩
      intro G5 A5 H5 y e5 R5 n5
      obtain ⟨nL5, L5⟩ := e5.f L _ n4 L4
      have g5 := e5.k L _ L4 g4
      split at q5
      · rename_i hlen
        have e25 := e24.trans e5
        have hl : accv.length < sizeLine := by
          rw [na.length]
          exact Nat.lt_of_lt_of_le hlen (by decide)
        refine ⟨accv, L5, hl, G5, A5, S5, acc ++ [d5], accv ++ [y], (ex.trans e25).beside hL0 _, nL5, g5, upd_same, (na.mono e25.g e25.p).append (.cons n5 .nil), R5.beside g5 nL5 _, q5⟩
      · exact q5.elim
    | false =>
      rw [if_neg Bool.false_ne_true] at q4 ⊢
      exact ⟨G4, A4, S4, acc, accv, ex.trans e24, n4, g4, L4, na.mono e24.g e24.p, R4, q4⟩
  · rw [List.drop_of_length_le (by omega)] at q'
    have ei : i = ds.length := by omega
    exact .inl ⟨ei ▸ Y.stop G' A' S' H ex.lat hR', fin G' A' H S' acc accv ex hL gL HL na hR' q'⟩
/-- [e for target in iter if tests] -/
def eComp (vs : List Nat) (fi : FAx) (b : FGx) (t : FTx) (e : FEx) : FEx := fun r => bnd (eCompL vs fi b t e r) fun xs => ret (.lst xs)
def eCompM (vs : List Nat) (fi : FAx) (b : FGx) (t : FTx) (e : FEx) : FEx := fun r => bnd (eCompL vs fi b t e r) fun xs => fun S => .ok (.ref S.length) (S ++ [.lst xs])
theorem to_comp {W : WR} {vs : List Nat} {fi : FAx} {b : FGx} {t : FTx} {e : FEx} {s : L2.St} {H : Hp} {Q : VK} {r : Env} {G : Hp} {A : List Addr} {S : Sto} {P : D → Sto → Prop} {k : List D → M D} (hr : EnvR X.K G A s r) (hR : Rel X.K A S G H)
    (q : (bnd (eCompL vs fi b t e r) k S).post P (QE X.K X.mg EE G A H))
    (fin : ∀ G1 A1 H1 S1 L G' A' H' acc accv, Ex A G H A1 G1 H1 → H1 L = none → Ex A1 G1 H1 A' G' H' → L ∉ A' → G' L = none → H' L = some (.lst accv) → DnAll X.K G' A' accv acc → Rel X.K A' S1 G' H' → (k acc S1).post P (QE X.K X.mg EE G A H) → Q (.ref L) H') :
    tLc (RI X EE W fi) (RGc X W vs b) (RT X E0 t) (RE X E0 e) vs s H Q := by
  unfold eCompL at q
  rw [post_bnd, post_bnd] at q
  refine ⟨r, G, A, S, hr, hR, q.mono (fun ds S1 q1 => ?_) fun _ _ z => z⟩
  intro G1 A1 H1 J e1 R1 Y L hL
  refine ⟨fun i m Hh => i + m = ds.length ∧ ∃ G' A' S' acc accv, Ex A1 G1 H1 A' G' Hh ∧ L ∉ A' ∧ G' L = none ∧ Hh L = some (.lst accv) ∧ DnAll X.K G' A' accv acc ∧ Rel X.K A' S' G' Hh ∧ (compD b t e (wipeE r vs) (ds.drop i) acc S').post (fun acc S' => (k acc S').post P (QE X.K X.mg EE G A H)) (QE X.K X.mg EE G A H),
    ⟨ds.length, Nat.zero_add _, G1, A1, S1, [], [], Ex.refl.beside hL _, R1.notin hL, R1.free hL, upd_same, .nil, R1.beside (R1.free hL) (R1.notin hL) _, q1⟩, ?_⟩
  rintro i m H' ⟨hm, st⟩
  rcases comp_loop (Qd := fun H' => Q (.ref L) H') (hr.mono e1.g e1.p) hL Y (fun G' A' H' S' acc accv a1 a2 a3 a4 a5 a6 a7 => fin G1 A1 H1 S' L G' A' H' acc accv e1 hL a1 a2 a3 a4 a5 a6 a7) i H' (by omega) st with h | ⟨go, hi, h⟩
  · exact .inl h
  · exact .inr ⟨go, _, fun H2 h2 => ⟨m - 1, by omega, by omega, h2⟩, h⟩
section
variable {W : WR} {elt tg iter : Expr} {ifs : List Expr} {scope : Scope} {own : List (Str × Nat)} {pos : Pos} {fi : FAx} {b : FGx} {t : FTx} {e : FEx}
theorem fe_comp (hc : X.calm = true) (hN : X.N.Nodup) (hi : FI X EE W tg iter fi) (ok : BlkOk X.N X.env.scope scope own)
    (hg : ∀ (s : Shared) (H : Hp) (C : Addr) (cl : List (Str × Addr)) (fp : List Addr), PG (X.blk s H scope (compEnvC scope cl C X.env) fp) tg (RGc X W (own.map (·.2)) b))
    (ht : ∀ (s : Shared) (H : Hp) (C : Addr) (cl : List (Str × Addr)) (fp : List Addr), FTs (X.blk s H scope (compEnvC scope cl C X.env) fp) ifs t)
    (he : ∀ (s : Shared) (H : Hp) (C : Addr) (cl : List (Str × Addr)) (fp : List Addr), FE (X.blk s H scope (compEnvC scope cl C X.env) fp) E0 elt e) (hs : ∀ x, foldedSetIterable iter X.env x = pure x := by intro _; rfl) :
    FE X EE (.ListComp elt [⟨tg, iter, ifs, 0⟩] scope pos) (eComp (own.map (·.2)) fi b t e) := by
  refine pe_weak (pe_lc (tt := RT X E0 t) (te := RE X E0 e) hc hN hi ok hg ht he hs) fun s H Q ⟨r, G, A, S, hr, hR, q⟩ => ?_
  refine to_comp hr hR q fun G1 A1 H1 S1 L G' A' H' acc accv e1 hL ex nL gL HL na R' q' => ?_
  exact q' _ A' H' _ ((e1.trans (ex.freeze hL gL _))) (R'.freeze gL nL HL) (.lst (.inl (.of upd_same)) (na.mono (upd_same_of gL) (Pre.refl _)))
/-- y = [..], y a local -/
theorem fs_setComp {i : Nat} {y : Str} {py spos : Pos} (hc : X.calm = true) (hN : X.N.Nodup) (hy : X.N[i]? = some y) (hyl : X.env.scope.names.lookup y = some .local)
    (hsw : swapsWith (.ListComp elt [⟨tg, iter, ifs, 0⟩] scope pos) (some (.Name y py)) spos.line X.env = pure true) (hi : FI X EE W tg iter fi) (ok : BlkOk X.N X.env.scope scope own)
    (hg : ∀ (s : Shared) (H : Hp) (C : Addr) (cl : List (Str × Addr)) (fp : List Addr), PG (X.blk s H scope (compEnvC scope cl C X.env) fp) tg (RGc X W (own.map (·.2)) b))
    (ht : ∀ (s : Shared) (H : Hp) (C : Addr) (cl : List (Str × Addr)) (fp : List Addr), FTs (X.blk s H scope (compEnvC scope cl C X.env) fp) ifs t)
    (he : ∀ (s : Shared) (H : Hp) (C : Addr) (cl : List (Str × Addr)) (fp : List Addr), FE (X.blk s H scope (compEnvC scope cl C X.env) fp) E0 elt e) (hs : ∀ x, foldedSetIterable iter X.env x = pure x := by intro _; rfl) :
    FS X EE (.Assign [.Name y py] (.ListComp elt [⟨tg, iter, ifs, 0⟩] scope pos) spos) (sAsg (eComp (own.map (·.2)) fi b t e) (gName' i)) := by
  refine ps_weak (ps_setLc (tt := RT X E0 t) (te := RE X E0 e) hc hN hy hyl hsw hi ok hg ht he hs) fun T s H ⟨r, G, A, S, hr, hR, q⟩ => ?_
  unfold sAsg eComp at q
  rw [post_bnd, post_bnd] at q
  have q' : (bnd (eCompL (own.map (·.2)) fi b t e r) (fun xs => ret (.lst xs)) S).post (fun d S' => (bnd (gName' i d r) (fun r' => ret (.nx r')) S').post (QF X.K G A H T) (QE X.K X.mg EE G A H)) (QE X.K X.mg EE G A H) := by
    rw [post_bnd]
    exact q
  refine to_comp hr hR q' fun G1 A1 H1 S1 L G' A' H' acc accv e1 hL ex nL gL HL na R' q2 => ?_
  have e2 := e1.trans (ex.freeze hL gL (.lst accv))
  exact q2 _ A' H' _ e2 (R'.freeze gL nL HL) ((hr.mono e2.g e2.p).set (.lst (.inl (.of upd_same)) (na.mono (upd_same_of gL) (Pre.refl _))))
end
end
end FL
end
section
set_option Elab.async false
set_option linter.all false
set_option maxRecDepth 100000
set_option autoImplicit false
set_option maxHeartbeats 2000000
namespace FL
open PySem PySem.Spec PyProof.Rows L2
/-! ## enumerate of a tuple -/
theorem meets_enumerate_newT (l : Addr) (items : Array Value) (n : Nat) (dct : Option Addr) (sl : Array (Option Value)) :
    Meets (Builtin.«enumerate.__new__» ⟨[.type "enumerate", .ref l], []⟩) (fun _ R s => s.heap.get? l = some { cls := .type "tuple", dict := dct, data := .seq items n, slots := sl } ∧
      R (.ok (.ret (.ref (s.heap.push { cls := .type "tuple_iterator", data := .fields #[.ref l, .int 0 0] }).objs.size)))
        { s with heap := (s.heap.push { cls := .type "tuple_iterator", data := .fields #[.ref l, .int 0 0] }).push { cls := .type "enumerate", data := .fields #[.none, .bool false, .ref s.heap.objs.size, rawInt 0, .none, .none] } }) :=
  .of_wp fun prog w A R s h => by
    obtain ⟨hp, g, d, tk, os⟩ := s; obtain ⟨hl, h⟩ := h
    have hsub := sub_enumerate
    have hL : Heap.IsTuple (Shared.heap ⟨hp, g, d, tk, os⟩) l items := ⟨_, hl, rfl, n, rfl⟩
    wp_walk using AutoSeq1.wpAny_loadPart' hl
    refine wpAny_stack_any fun st => wpAny_pure ?_
    split
    · rename_i c _ _ _ _ _
      cases (c == Value.type "enumerate")
      · wp_walk using AutoSeq1.wpAny_loadPart' hl, wpAny_pyIter_tuple hL
        exact ⟨_, rfl, h⟩
      · wp_walk using AutoSeq1.wpAny_loadPart' hl, wpAny_pyIter_tuple hL
        exact ⟨_, rfl, h⟩
    · wp_walk using AutoSeq1.wpAny_loadPart' hl, wpAny_pyIter_tuple hL
      exact ⟨_, rfl, h⟩
theorem call_enumerate_tuple {prog : Program} {w : World} {A : Around} {E : Value → Shared → Prop} {s : Shared} {l : Addr} {items : Array Value} {Q : Value → Shared → Prop} (hL : s.heap.IsTuple l items)
    (h : ∀ h', IsEnum h' (s.heap.objs.size + 1) s.heap.objs.size 0 .none → h'.IsTupleIter s.heap.objs.size l 0 → h'.objs.size = s.heap.objs.size + 2 →
      (∀ b o, s.heap.get? b = some o → h'.get? b = some o) → Q (.ref (s.heap.objs.size + 1)) { s with heap := h' }) :
    wpAny (model prog w) A (call (.type "enumerate") [.ref l]) Q E s := by
  obtain ⟨⟨c, dct, dt, sl⟩, hl, hc, n, hd⟩ := hL
  replace hc : c = .type "tuple" := hc
  replace hd : dt = .seq items n := hd
  subst hc hd
  refine callType_new F.called_enumerate (by decide) (F.typeCall_enumerate_1 _) (F.newCall_enumerate_1 _) (fun obj => F.args_object_init_2 obj _) F.entry_enumerate_new
    (meets_enumerate_newT l items n dct sl) ⟨hl, ?_⟩
  have hz : (s.heap.push { cls := .type "tuple_iterator", data := .fields #[.ref l, .int 0 0] }).objs.size = s.heap.objs.size + 1 := Heap.size_push ..
  show _ ∧ _
  rw [hz]
  have he : IsEnum ((s.heap.push { cls := .type "tuple_iterator", data := .fields #[.ref l, .int 0 0] }).push
      { cls := .type "enumerate", data := .fields #[.none, .bool false, .ref s.heap.objs.size, rawInt 0, .none, .none] }) (s.heap.objs.size + 1) s.heap.objs.size 0 .none := by
    have := Heap.get?_push_size (s.heap.push { cls := .type "tuple_iterator", data := .fields #[.ref l, .int 0 0] })
      (o := { cls := .type "enumerate", data := .fields #[.none, .bool false, .ref s.heap.objs.size, rawInt 0, .none, .none] }) rfl
    rw [hz] at this; exact this
  refine ⟨⟨_, he, rfl⟩, h _ he ⟨_, Heap.get?_push_of_some _ (Heap.get?_push_size _ rfl), rfl, rfl⟩ (by rw [Heap.size_push, hz]) fun b o x => Heap.get?_push_of_some _ (Heap.get?_push_of_some _ x)⟩
/-- the tuple at a, with the places -/
def ItEt (K : PySem.W.Frag) (a : Addr) : It :=
  ⟨fun i H => ∃ (xs : List V) (x : V), SqT K H a xs ∧ xs[i]? = some x, fun i H v H' => ∃ T x, v = .ref T ∧ H T = none ∧ H' = upd H T (.tup [.int (i : Nat), x]) ∧ ∀ xs, SqT K H a xs → xs[i]? = some x, fun i H => ∃ xs : List V, SqT K H a xs ∧ xs.length = i⟩
theorem turn_enumT {P : Program} {w : World} {K : PySem.W.Frag} {elts : List Expr} {kk : Nat} {tpos : Pos} (a e it : Addr) (hai : a ≠ it) (hea : e ≠ a) :
    Turn P w K (.Tuple elts kk tpos) (ItEt K a) [e, it] e (fun i h => (∃ old, IsEnum h e it ((i : Nat) : Int) old) ∧ h.IsTupleIter it a i ∧ e ≠ it) where
  mem := by simp
  obj := fun i h st b hb => by
    obtain ⟨⟨old, he⟩, ⟨o, ho, hc, hd⟩, _⟩ := st
    have e' : b = e ∨ b = it := by simpa using hb
    rcases e' with z | z
    · rw [z]; exact ⟨_, he, fun v q => nomatch q⟩
    · rw [z]; exact ⟨o, ho, fun v q => by rw [hd] at q; cases q⟩
  keep := fun i h h' st k => let ⟨⟨old, he⟩, hi, hne⟩ := st; ⟨⟨old, k e (by simp) _ he⟩, hi.at fun o q => k it (by simp) o q, hne⟩
  item := by
    intro X hP hw hK hc i pins s σ H E I hf st hg
    subst hP hw hK
    obtain ⟨⟨old, he⟩, hit, hne⟩ := st
    obtain ⟨xs, x, hq, hx⟩ := hg
    obtain ⟨its, rv, p, hz⟩ := I.tuple hq
    obtain ⟨u, hu, ru⟩ := rv.get hx
    have hel : e < s.heap.objs.size := Heap.lt_size he
    have hil : it < s.heap.objs.size := by obtain ⟨_, q, _⟩ := hit; exact Heap.lt_size q
    have hi' : i < its.toArray.size := by
      have := (List.getElem?_eq_some_iff.mp hu).1
      simpa using this
    refine wpAny_pyNext_enum_itemD (Draws.tuple (A := X.A.in1) (I.ok.hd hc) it a hai its.toArray) he ⟨hit, p⟩ hi' hne (by simp [hne, hea]) fun y h' tk hy ho hit' hT hsz hk => ?_
    have ey : y = u := by
      have e1 : its.toArray[i]? = some u := by simpa using hu
      exact Option.some.inj (hy.symm.trans e1)
    subst ey
    refine ⟨_, rfl, wpAny_letOwnedTupleGo_enum (s := { s with heap := h', toks := tk + 1 }) ho fun h'' he' sb => ?_⟩
    have hT2 : h''.get? s.heap.objs.size = some { cls := .type "tuple", data := .seq #[.int i tk, y] } := (sb.2 _ (Nat.ne_of_gt hel)).trans hT
    have new : ObjOk X.prog X.w (upd H s.heap.objs.size (.tup [.int (i : Nat), x])) h'' s.heap.objs.size (.tup [.int (i : Nat), x]) :=
      ⟨by show 2 ≤ sizeLine; decide, [.int i tk, y], .cons ⟨_, rfl⟩ (.cons ru .nil), ⟨_, hT2, rfl, _, rfl⟩⟩
    have I1 : Inv X pins σ (upd H s.heap.objs.size (.tup [.int (i : Nat), x])) { s with heap := h'', toks := tk + 1 } :=
      I.turnedNew (ch := [e, it]) (fun b ob hb q => (sb.2 b (fun z => hb (by simp [z]))).trans (hk b ob (fun z => hb (by simp [z])) (fun z => hb (by simp [z])) q)) hf (Nat.le_refl _) new
    refine ⟨.ref s.heap.objs.size, _, I1, rfl, ⟨_, x, rfl, I.hok.fresh (Nat.le_refl _), rfl, fun ys hy => by rw [I.tuple_inj hy hq]; exact hx⟩, ⟨⟨y, ?_⟩, hit'.1.at fun o q => (sb.2 it (Ne.symm hne)).trans q, hne⟩, fun b hb => ?_⟩
    · have e1 : ((i + 1 : Nat) : Int) = (i : Int) + 1 := by omega
      rw [e1]; exact he'
    · have hb' : b < s.heap.objs.size := by
        have e' : b = e ∨ b = it := by simpa using hb
        rcases e' with z | z
        · rw [z]; exact hel
        · rw [z]; exact hil
      rw [upd_ne (Nat.ne_of_lt hb')]
      exact (hf b hb).1
  done := by
    intro X hP hw hK hc i pins s σ H E I hf st hg
    subst hP hw hK
    obtain ⟨⟨old, he⟩, hit, hne⟩ := st
    obtain ⟨xs, hq, hx⟩ := hg
    obtain ⟨its, rv, p, hz⟩ := I.tuple hq
    obtain ⟨f0, f1, f2, f3, f4, f5⟩ := hf it (by simp)
    have hl := rv.length
    have ei : i = its.toArray.size := by simp; omega
    subst ei
    exact wpAny_pyNext_enum_endD (Draws.tuple (A := X.A.in1) (I.ok.hd hc) it a hai its.toArray) he ⟨hit, p⟩ fun h' eb => ⟨rfl, I.turned (t' := s.toks) (fun b o hb q => eb b o hb q) f0 f1 f3 f4 f5⟩
  self := fun A i s Q E st h => let ⟨⟨_, he⟩, _⟩ := st; wpAny_pyIter_enum he h
def iEnumA (K : PySem.W.Frag) (ta : TA) : TI := fun σ H R => ta σ H fun vs H1 => ∃ a xs, vs = [.ref a] ∧ ((SqL K H1 a xs ∧ R (Ite K a) H1) ∨ (SqT K H1 a xs ∧ R (ItEt K a) H1))
theorem pi_enumA {X : Cx} {e : Expr} {ta : TA} {p pos tpos : Pos} {elts : List Expr} {kk : Nat} (hg : Gl X "enumerate") (hm : X.mg "enumerate" = none) (ha : PA X [e] ta) (hs : starEach [e] X.env = [(false, eval e X.env)] := by rfl) :
    PI X (.Tuple elts kk tpos) (.Call (.Name "enumerate" p) [e] [] pos) (iEnumA X.K ta) := by
  refine ⟨fun pins s σ H R I h => ?_⟩
  refine Call_ (ld_blt I hg hm boot_enumerate (PyProof.Rows.callWith_type1 (thn (ha.run pos pins s σ H _ I h) fun us s1 ⟨vs, H1, I1, r1, q1⟩ => ?_) hs rfl))
  obtain ⟨a, xs, ex, q1⟩ := q1
  subst ex
  cases r1 with
  | cons r rr =>
    cases rr
    cases r
    have fresh2 : ∀ b, b ∈ [s1.heap.objs.size + 1, s1.heap.objs.size] → FpOk X pins H1 b := fun b hb => by
      have e' : b = s1.heap.objs.size + 1 ∨ b = s1.heap.objs.size := by simpa using hb
      have hle : s1.heap.objs.size ≤ b := by
        rcases e' with z | z
        · rw [z]; exact Nat.le_add_right _ _
        · rw [z]; exact Nat.le_refl _
      exact I1.fpOk hle (I1.hok.fresh hle)
    rcases q1 with ⟨hq, q⟩ | ⟨hq, q⟩
    · obtain ⟨its, rv, p', hz⟩ := I1.list hq
      refine call_enumerate_list p'.isList fun h' he hit hsz hk => wpAny_pyIter_enum he ?_
      have I2 : Inv X pins σ H1 { s1 with heap := h' } := I1.kept (t' := s1.toks) hk
      exact ⟨s1.heap.objs.size + 1, [s1.heap.objs.size + 1, s1.heap.objs.size], _, _, H1, rfl, I2, turn_enum a (s1.heap.objs.size + 1) s1.heap.objs.size, ⟨⟨.none, he⟩, hit, Nat.succ_ne_self _⟩, fresh2, q⟩
    · obtain ⟨its, rv, p', hz⟩ := I1.tuple hq
      have hal : a < s1.heap.objs.size := by obtain ⟨o, ho, _⟩ := p'; exact Heap.lt_size ho
      refine call_enumerate_tuple (show s1.heap.IsTuple a its.toArray from p') fun h' he hit hsz hk => wpAny_pyIter_enum he ?_
      have I2 : Inv X pins σ H1 { s1 with heap := h' } := I1.kept (t' := s1.toks) hk
      exact ⟨s1.heap.objs.size + 1, [s1.heap.objs.size + 1, s1.heap.objs.size], _, _, H1, rfl, I2, turn_enumT a (s1.heap.objs.size + 1) s1.heap.objs.size (Nat.ne_of_lt hal) (Nat.ne_of_gt (Nat.lt_succ_of_lt hal)), ⟨⟨.none, he⟩, hit, Nat.succ_ne_self _⟩, fresh2, q⟩
/-- a list, a tuple or a text, whichever it is -/
def iSeq (K : PySem.W.Frag) (tl : TE) : TI := fun σ H R => tl σ H fun x H1 => (∃ a xs, x = .ref a ∧ SqL K H1 a xs ∧ R (Itl K a) H1) ∨ (∃ a xs, x = .ref a ∧ SqT K H1 a xs ∧ R (Itt K a) H1) ∨ ∃ z, x = .str z ∧ R (Its z) H1
theorem pi_seq {X : Cx} {tg l : Expr} {tl : TE} (hl : PE X l tl) : PI X tg l (iSeq X.K tl) := by
  refine ⟨fun pins s σ H R I h => ?_⟩
  refine thn (hl.run pins s σ H _ I h) fun v s1 ⟨x, H1, I1, r1, q1⟩ => ?_
  have fr : ∀ b, b ∈ [s1.heap.objs.size] → FpOk X pins H1 b := fun b hb => by
    have e : b = s1.heap.objs.size := by simpa using hb
    subst e
    exact I1.fpOk (Nat.le_refl _) (I1.hok.fresh (Nat.le_refl _))
  rcases q1 with ⟨a, xs, e, hq, q⟩ | ⟨a, xs, e, hq, q⟩ | ⟨z, e, q⟩
  · subst e
    cases r1
    obtain ⟨its, rv, p, hz⟩ := I1.list hq
    refine wpAny_pyIter_list p.isList ?_
    exact ⟨s1.heap.objs.size, [s1.heap.objs.size], _, _, H1, rfl, I1.kept (t' := s1.toks) fun b o e => Heap.get?_push_of_some _ e, turn_list a _, ⟨_, Heap.get?_push_size _ rfl, rfl, rfl⟩, fr, q⟩
  · subst e
    cases r1
    obtain ⟨its, rv, p, hz⟩ := I1.tuple hq
    refine wpAny_pyIter_tuple (show s1.heap.IsTuple a its.toArray from p) ?_
    exact ⟨s1.heap.objs.size, [s1.heap.objs.size], _, _, H1, rfl, I1.kept (t' := s1.toks) fun b o e => Heap.get?_push_of_some _ e, turn_tuple a _, ⟨_, Heap.get?_push_size _ rfl, rfl, rfl⟩, fr, q⟩
  · subst e
    obtain ⟨t, rfl⟩ := r1
    cases ha : z.cps.all (· < 128)
    · exact wpAny_pyIter_wide ha (pi_one (tk := s1.toks) I1 _ (turn_str _ z t "str_iterator" (.inr rfl)) ⟨_, Heap.get?_push_size _ rfl, rfl, rfl⟩ q)
    · exact wpAny_pyIter_ascii ha (pi_one (tk := s1.toks) I1 _ (turn_str _ z t "str_ascii_iterator" (.inl rfl)) ⟨_, Heap.get?_push_size _ rfl, rfl, rfl⟩ q)
/-! ## the same by data -/
/-- what can be walked as it stands: no thing that may change -/
def itemsD : D → Option (List D)
  | .lst xs => some xs
  | .tup xs => some xs
  | .str x => some (x.cps.toList.map fun c => .str ⟨#[c]⟩)
  | _ => none
section
variable {X : Cx} {EE : XK}
theorem y_list {G0 H0 : Hp} {A0 : List Addr} {S0 : Sto} {a : Addr} {vs : List V} {ds : List D} (R0 : Rel X.K A0 S0 G0 H0) (s : LAt X.K G0 a vs) (t : DnAll X.K G0 A0 vs ds) : Yields X (WN X) G0 A0 H0 (Itl X.K a) ds := by
  refine ⟨fun G A S H e R => ⟨vs, (sql_same R.sub (sql_same e.g s)).sq, by rw [t.length]; exact Nat.le_refl _⟩, fun G A S H i d e R hd => ?_, fun G A S H i d x H' e R hd hy => ?_⟩
  · obtain ⟨v, ev, _⟩ := t.get hd
    exact ⟨vs, v, (sql_same R.sub (sql_same e.g s)).sq, ev⟩
  · obtain ⟨eH, hx⟩ := hy
    obtain ⟨v, ev, nv⟩ := t.get hd
    have ex := hx vs (sql_same R.sub (sql_same e.g s)).sq
    rw [ev] at ex
    cases ex
    rw [eH]
    exact ⟨G, Ex.refl, R, nv.mono e.g e.p⟩
theorem y_tup {G0 H0 : Hp} {A0 : List Addr} {S0 : Sto} {a : Addr} {vs : List V} {ds : List D} (R0 : Rel X.K A0 S0 G0 H0) (s : TupAt X.K G0 a vs) (t : DnAll X.K G0 A0 vs ds) : Yields X (WN X) G0 A0 H0 (Itt X.K a) ds := by
  refine ⟨fun G A S H e R => ⟨vs, ((s.same e.g).same R.sub).sq, by rw [t.length]; exact Nat.le_refl _⟩, fun G A S H i d e R hd => ?_, fun G A S H i d x H' e R hd hy => ?_⟩
  · obtain ⟨v, ev, _⟩ := t.get hd
    exact ⟨vs, v, ((s.same e.g).same R.sub).sq, ev⟩
  · obtain ⟨eH, hx⟩ := hy
    obtain ⟨v, ev, nv⟩ := t.get hd
    have ex := hx vs ((s.same e.g).same R.sub).sq
    rw [ev] at ex
    cases ex
    rw [eH]
    exact ⟨G, Ex.refl, R, nv.mono e.g e.p⟩
theorem y_str {G0 H0 : Hp} {A0 : List Addr} {z : Str} (ok : PyData.strOk z = true) : Yields X (WN X) G0 A0 H0 (Its z) (z.cps.toList.map fun c => .str ⟨#[c]⟩) := by
  refine ⟨fun G A S H e R => by show z.cps.size ≤ _; simp, fun G A S H i d e R hd => ?_, fun G A S H i d x H' e R hd hy => ?_⟩
  · show i < z.cps.size
    have := (List.getElem?_eq_some_iff.mp hd).1
    simpa using this
  · obtain ⟨eH, c, hc, ex⟩ := hy
    subst ex
    rw [eH]
    rw [List.getElem?_map] at hd
    obtain ⟨c', hc', rfl⟩ := Option.map_eq_some_iff.mp hd
    have e1 : z.cps[i]? = some c' := by simpa using hc'
    rw [hc] at e1
    cases e1
    exact ⟨G, Ex.refl, R, .str _ (strOk_one ok (List.mem_of_getElem? hc'))⟩
theorem y_range {G0 H0 : Hp} {A0 : List Addr} (lo : Int) (n : Nat) : Yields X (WN X) G0 A0 H0 (Itr lo n) ((List.range n).map fun i => .int (lo + (i : Nat))) := by
  refine ⟨fun G A S H e R => by show n ≤ _; simp, fun G A S H i d e R hd => ?_, fun G A S H i d x H' e R hd hy => ?_⟩
  · show i < n
    have := (List.getElem?_eq_some_iff.mp hd).1
    simpa using this
  · obtain ⟨eH, ex⟩ := hy
    subst ex
    rw [eH]
    rw [List.getElem?_map] at hd
    obtain ⟨c', hc', rfl⟩ := Option.map_eq_some_iff.mp hd
    have e1 : c' = i := by
      obtain ⟨h1, h2⟩ := List.getElem?_eq_some_iff.mp hc'
      rw [← h2]; simp
    subst e1
    exact ⟨G, Ex.refl, R, .int _⟩
def iSeqD (f : FEx) : FAx := fun r => bnd (f r) fun d => opt (itemsD d)
theorem fi_seq {tg l : Expr} {f : FEx} (h : FE X EE l f) : FI X EE (WN X) tg l (iSeqD f) := by
  refine pi_weak (pi_seq h) fun s H K ⟨r, G, A, S, hr, hR, q⟩ => ?_
  refine re_bnd hr hR q (fun _ _ z => z) fun G1 A1 H1 x d S1 a1 r1 R1 n1 q1 => ?_
  rw [post_opt] at q1
  obtain ⟨ds, hd, q1⟩ := q1
  cases d with
  | lst xs =>
    cases hd
    cases n1 with
    | lst s t => exact .inl ⟨_, _, rfl, (sql_same R1.sub s).sq, q1 G1 A1 H1 _ a1 R1 (y_list R1 s t)⟩
  | tup xs =>
    cases hd
    cases n1 with
    | tup s t => exact .inr (.inl ⟨_, _, rfl, (s.same R1.sub).sq, q1 G1 A1 H1 _ a1 R1 (y_tup R1 s t)⟩)
  | str z =>
    cases hd
    cases n1 with
    | str _ o => exact .inr (.inr ⟨z, rfl, q1 G1 A1 H1 _ a1 R1 (y_str o)⟩)
  | _ => cases hd
def smallR (i : Int) : Bool := decide (-(1000000) ≤ i ∧ i ≤ 1000000)
def rangeD1 : List D → Option (List D) := one fun d => on1 D.int? d fun j => guard' (smallR j) ((List.range j.toNat).map fun i => .int (0 + (i : Nat)))
def rangeD2 : List D → Option (List D) := two fun d e => on2 D.int? D.int? d e fun i j => guard' (smallR i && smallR j) ((List.range (j - i).toNat).map fun k => .int (i + (k : Nat)))
def iRange (g : List D → Option (List D)) (f : FAx) : FAx := fun r => bnd (f r) fun ds => opt (g ds)
theorem fi_range1 {tg a : Expr} {f : FAx} {p pos : Pos} (hg : Gl X "range") (hm : X.mg "range" = none) (ha : FA X EE [a] f) (hs : starEach [a] X.env = [(false, eval a X.env)] := by rfl) : FI X EE (WN X) tg (.Call (.Name "range" p) [a] [] pos) (iRange rangeD1 f) := by
  refine pi_weak (pi_range1 hg hm ha hs) fun s H K ⟨r, G, A, S, hr, hR, q⟩ => ?_
  refine ra_bnd hr hR q (fun _ _ z => z) fun G1 A1 H1 vs ds S1 a1 r1 R1 n1 q1 => ?_
  rw [post_opt] at q1
  obtain ⟨xs, hd, q1⟩ := q1
  obtain ⟨d, rfl, hk⟩ := one_eq hd
  obtain ⟨j, hj, hg⟩ := on1_eq hk
  clear hd hk
  cases D.int?_eq hj
  obtain ⟨rfl, hc⟩ := guard_eq hg
  have hb := of_decide_eq_true hc
  cases n1 with
  | cons n1 n2 =>
    cases n2
    cases n1
    exact ⟨j, rfl, by omega, by omega, q1 G1 A1 H1 _ a1 R1 (y_range 0 j.toNat)⟩
theorem fi_range2 {tg a b : Expr} {f : FAx} {p pos : Pos} (hg : Gl X "range") (hm : X.mg "range" = none) (ha : FA X EE [a, b] f) (hs : starEach [a, b] X.env = [(false, eval a X.env), (false, eval b X.env)] := by rfl) (hs2 : starEach [b] X.env = [(false, eval b X.env)] := by rfl) : FI X EE (WN X) tg (.Call (.Name "range" p) [a, b] [] pos) (iRange rangeD2 f) := by
  refine pi_weak (pi_range2 hg hm ha hs hs2) fun s H K ⟨r, G, A, S, hr, hR, q⟩ => ?_
  refine ra_bnd hr hR q (fun _ _ z => z) fun G1 A1 H1 vs ds S1 a1 r1 R1 n1 q1 => ?_
  rw [post_opt] at q1
  obtain ⟨xs, hd, q1⟩ := q1
  obtain ⟨d, e, rfl, hk⟩ := two_eq hd
  obtain ⟨i, j, hi, hj, hg⟩ := on2_eq hk
  clear hd hk
  cases D.int?_eq hi
  cases D.int?_eq hj
  obtain ⟨rfl, hc⟩ := guard_eq hg
  obtain ⟨c1, c2⟩ := Bool.and_eq_true_iff.mp hc
  have b1 := of_decide_eq_true c1
  have b2 := of_decide_eq_true c2
  cases n1 with
  | cons n1 n2 =>
    cases n2 with
    | cons n2 n3 =>
      cases n3
      cases n1
      cases n2
      exact ⟨i, j, rfl, ⟨by omega, by omega, by omega, by omega⟩, q1 G1 A1 H1 _ a1 R1 (y_range i (j - i).toNat)⟩
end
end FL
end
section
set_option Elab.async false
set_option linter.all false
set_option maxRecDepth 100000
set_option autoImplicit false
set_option maxHeartbeats 2000000
namespace FL
open PySem PySem.Spec PyProof.Rows L2
section
variable {X : Cx} {EE : XK}
/-! ## enumerate, zip -/
/-- a pair just made -/
theorem pair_new {G H : Hp} {A : List Addr} {S : Sto} {T : Addr} {x y : V} {d e : D} (R : Rel X.K A S G H) (hT : H T = none) (hx : Dn X.K G A x d) (hy : Dn X.K G A y e) :
    ∃ G', Ex A G H A G' (upd H T (.tup [x, y])) ∧ Rel X.K A S G' (upd H T (.tup [x, y])) ∧ WU X G' A (upd H T (.tup [x, y])) (.ref T) (.tup [d, e]) := by
  have ee := R.exNew hT (.tup [x, y])
  exact ⟨_, ee, R.new hT _, T, [x, y], [d, e], rfl, rfl, .of upd_same, .cons (hx.mono ee.g ee.p) (.cons (hy.mono ee.g ee.p) .nil)⟩
def enumL (ds : List D) : List D := (List.range ds.length).zipWith (fun (i : Nat) d => .tup [.int (i : Nat), d]) ds
theorem enumL_get {ds : List D} {i : Nat} {d : D} (h : (enumL ds)[i]? = some d) : ∃ e, ds[i]? = some e ∧ d = .tup [.int (i : Nat), e] := by
  unfold enumL at h
  rw [List.getElem?_zipWith] at h
  cases h1 : ds[i]? with
  | none => rw [h1] at h; simp at h
  | some e =>
    have hi := (List.getElem?_eq_some_iff.mp h1).1
    have h2 : (List.range ds.length)[i]? = some i := by simp [hi]
    rw [h1, h2] at h
    cases h
    exact ⟨e, rfl, rfl⟩
theorem enumL_length (ds : List D) : (enumL ds).length = ds.length := by simp [enumL]
theorem y_enumL {G0 H0 : Hp} {A0 : List Addr} {a : Addr} {vs : List V} {ds : List D} (s : LAt X.K G0 a vs) (t : DnAll X.K G0 A0 vs ds) : Yields X (WU X) G0 A0 H0 (Ite X.K a) (enumL ds) := by
  refine ⟨fun G A S H e R => ⟨vs, (sql_same R.sub (sql_same e.g s)).sq, by rw [t.length, enumL_length]; exact Nat.le_refl _⟩, fun G A S H i d e R hd => ?_, fun G A S H i d x H' e R hd hy => ?_⟩
  · obtain ⟨d', hd', _⟩ := enumL_get hd
    obtain ⟨v, ev, _⟩ := t.get hd'
    exact ⟨vs, v, (sql_same R.sub (sql_same e.g s)).sq, ev⟩
  · obtain ⟨d', hd', rfl⟩ := enumL_get hd
    obtain ⟨T, w, rfl, hT, rfl, hx⟩ := hy
    obtain ⟨v, ev, nv⟩ := t.get hd'
    have ex := hx vs (sql_same R.sub (sql_same e.g s)).sq
    rw [ev] at ex
    cases ex
    exact pair_new R hT (.int _) (nv.mono e.g e.p)
theorem y_enumT {G0 H0 : Hp} {A0 : List Addr} {a : Addr} {vs : List V} {ds : List D} (s : TupAt X.K G0 a vs) (t : DnAll X.K G0 A0 vs ds) : Yields X (WU X) G0 A0 H0 (ItEt X.K a) (enumL ds) := by
  refine ⟨fun G A S H e R => ⟨vs, ((s.same e.g).same R.sub).sq, by rw [t.length, enumL_length]⟩, fun G A S H i d e R hd => ?_, fun G A S H i d x H' e R hd hy => ?_⟩
  · obtain ⟨d', hd', _⟩ := enumL_get hd
    obtain ⟨v, ev, _⟩ := t.get hd'
    exact ⟨vs, v, ((s.same e.g).same R.sub).sq, ev⟩
  · obtain ⟨d', hd', rfl⟩ := enumL_get hd
    obtain ⟨T, w, rfl, hT, rfl, hx⟩ := hy
    obtain ⟨v, ev, nv⟩ := t.get hd'
    have ex := hx vs ((s.same e.g).same R.sub).sq
    rw [ev] at ex
    cases ex
    exact pair_new R hT (.int _) (nv.mono e.g e.p)
def iEnumD (f : FAx) : FAx := fun r => bnd (f r) fun ds => opt (one (fun d => (alt d.lst? d.tup?).map enumL) ds)
theorem alt_seq {d : D} {xs : List D} (h : alt d.lst? d.tup? = some xs) : d = .lst xs ∨ d = .tup xs := by
  rcases alt_eq h with h | h
  · exact .inl (D.lst?_eq h)
  · exact .inr (D.tup?_eq h)
theorem fi_enum {e : Expr} {f : FAx} {p pos tpos : Pos} {elts : List Expr} {kk : Nat} (hg : Gl X "enumerate") (hm : X.mg "enumerate" = none) (ha : FA X EE [e] f) (hs : starEach [e] X.env = [(false, eval e X.env)] := by rfl) :
    FI X EE (WU X) (.Tuple elts kk tpos) (.Call (.Name "enumerate" p) [e] [] pos) (iEnumD f) := by
  refine pi_weak (pi_enumA hg hm ha hs) fun s H K ⟨r, G, A, S, hr, hR, q⟩ => ?_
  refine ra_bnd hr hR q (fun _ _ z => z) fun G1 A1 H1 vs ds S1 a1 r1 R1 n1 q1 => ?_
  rw [post_opt] at q1
  obtain ⟨xs, hd, q1⟩ := q1
  obtain ⟨d, rfl, hk⟩ := one_eq hd
  obtain ⟨ys, hy, rfl⟩ := Option.map_eq_some_iff.mp hk
  cases n1 with
  | cons n1 n2 =>
    cases n2
    rcases alt_seq hy with rfl | rfl
    · cases n1 with
      | lst s t => exact ⟨_, _, rfl, .inl ⟨(sql_same R1.sub s).sq, q1 G1 A1 H1 _ a1 R1 (y_enumL s t)⟩⟩
    · cases n1 with
      | tup s t => exact ⟨_, _, rfl, .inr ⟨(s.same R1.sub).sq, q1 G1 A1 H1 _ a1 R1 (y_enumT s t)⟩⟩
def zipL (xs ys : List D) : List D := xs.zipWith (fun d e => .tup [d, e]) ys
theorem zipL_get {xs ys : List D} {i : Nat} {d : D} (h : (zipL xs ys)[i]? = some d) : ∃ e f, xs[i]? = some e ∧ ys[i]? = some f ∧ d = .tup [e, f] := by
  unfold zipL at h
  rw [List.getElem?_zipWith] at h
  cases h1 : xs[i]? with
  | none => rw [h1] at h; simp at h
  | some e =>
    cases h2 : ys[i]? with
    | none => rw [h1, h2] at h; simp at h
    | some f => rw [h1, h2] at h; cases h; exact ⟨e, f, rfl, rfl, rfl⟩
theorem y_zipL {G0 H0 : Hp} {A0 : List Addr} {a b : Addr} {vs ws : List V} {ds es : List D} (s : LAt X.K G0 a vs) (t : DnAll X.K G0 A0 vs ds) (s2 : LAt X.K G0 b ws) (t2 : DnAll X.K G0 A0 ws es) : Yields X (WU X) G0 A0 H0 (Itz X.K a b) (zipL ds es) := by
  refine ⟨fun G A S H e R => ⟨vs, ws, (sql_same R.sub (sql_same e.g s)).sq, (sql_same R.sub (sql_same e.g s2)).sq, ?_⟩, fun G A S H i d e R hd => ?_, fun G A S H i d x H' e R hd hy => ?_⟩
  · rw [t.length, t2.length]
    simp only [zipL, List.length_zipWith]
    omega
  · obtain ⟨d1, d2, h1, h2, _⟩ := zipL_get hd
    obtain ⟨v, ev, _⟩ := t.get h1
    obtain ⟨v2, ev2, _⟩ := t2.get h2
    exact ⟨vs, ws, v, v2, (sql_same R.sub (sql_same e.g s)).sq, (sql_same R.sub (sql_same e.g s2)).sq, ev, ev2⟩
  · obtain ⟨d1, d2, h1, h2, rfl⟩ := zipL_get hd
    obtain ⟨T, w, w2, rfl, hT, rfl, hx, hy⟩ := hy
    obtain ⟨v, ev, nv⟩ := t.get h1
    obtain ⟨v2, ev2, nv2⟩ := t2.get h2
    have ex := hx vs (sql_same R.sub (sql_same e.g s)).sq
    have ey := hy ws (sql_same R.sub (sql_same e.g s2)).sq
    rw [ev] at ex
    rw [ev2] at ey
    cases ex
    cases ey
    exact pair_new R hT (nv.mono e.g e.p) (nv2.mono e.g e.p)
theorem y_zipT {G0 H0 : Hp} {A0 : List Addr} {a b : Addr} {vs ws : List V} {ds es : List D} (s : TupAt X.K G0 a vs) (t : DnAll X.K G0 A0 vs ds) (s2 : TupAt X.K G0 b ws) (t2 : DnAll X.K G0 A0 ws es) : Yields X (WU X) G0 A0 H0 (RZ.ItzT X.K a b) (zipL ds es) := by
  refine ⟨fun G A S H e R => ⟨vs, ws, ((s.same e.g).same R.sub).sq, ((s2.same e.g).same R.sub).sq, ?_⟩, fun G A S H i d e R hd => ?_, fun G A S H i d x H' e R hd hy => ?_⟩
  · rw [t.length, t2.length]
    simp only [zipL, List.length_zipWith]
    omega
  · obtain ⟨d1, d2, h1, h2, _⟩ := zipL_get hd
    obtain ⟨v, ev, _⟩ := t.get h1
    obtain ⟨v2, ev2, _⟩ := t2.get h2
    exact ⟨vs, ws, v, v2, ((s.same e.g).same R.sub).sq, ((s2.same e.g).same R.sub).sq, ev, ev2⟩
  · obtain ⟨d1, d2, h1, h2, rfl⟩ := zipL_get hd
    obtain ⟨T, w, w2, rfl, hT, rfl, hx, hy⟩ := hy
    obtain ⟨v, ev, nv⟩ := t.get h1
    obtain ⟨v2, ev2, nv2⟩ := t2.get h2
    have ex := hx vs ((s.same e.g).same R.sub).sq
    have ey := hy ws ((s2.same e.g).same R.sub).sq
    rw [ev] at ex
    rw [ev2] at ey
    cases ex
    cases ey
    exact pair_new R hT (nv.mono e.g e.p) (nv2.mono e.g e.p)
def zipD : List D → Option (List D) := two fun d e => alt (on2 D.lst? D.lst? d e fun xs ys => some (zipL xs ys)) (on2 D.tup? D.tup? d e fun xs ys => some (zipL xs ys))
theorem fi_zip {e e2 : Expr} {f : FAx} {p pos tpos : Pos} {elts : List Expr} {kk : Nat} (hg : Gl X "zip") (hm : X.mg "zip" = none) (ha : FA X EE [e, e2] f)
    (hs : starEach [e, e2] X.env = (false, eval e X.env) :: starEach [e2] X.env := by rfl) (hpl : (backTo pos (starEach [e2] X.env)).any (·.1) = false := by rfl) :
    FI X EE (WU X) (.Tuple elts kk tpos) (.Call (.Name "zip" p) [e, e2] [] pos) (iRange zipD f) := by
  refine pi_weak (RZ.pi_zipA hg hm ha hs hpl) fun s H K ⟨r, G, A, S, hr, hR, q⟩ => ?_
  refine ra_bnd hr hR q (fun _ _ z => z) fun G1 A1 H1 vs ds S1 a1 r1 R1 n1 q1 => ?_
  rw [post_opt] at q1
  obtain ⟨xs, hd, q1⟩ := q1
  obtain ⟨d, d2, rfl, hk⟩ := two_eq hd
  clear hd
  cases n1 with
  | cons n1 n2 =>
    cases n2 with
    | cons n2 n3 =>
      cases n3
      replace hk := alt_eq hk
      rcases hk with hk | hk
      · obtain ⟨ys, zs, h1, h2, h3⟩ := on2_eq hk
        clear hk
        cases D.lst?_eq h1
        cases D.lst?_eq h2
        cases h3
        cases n1 with
        | lst s t => cases n2 with
          | lst s2 t2 => exact ⟨_, _, _, _, rfl, .inl ⟨(sql_same R1.sub s).sq, (sql_same R1.sub s2).sq, q1 G1 A1 H1 _ a1 R1 (y_zipL s t s2 t2)⟩⟩
      · obtain ⟨ys, zs, h1, h2, h3⟩ := on2_eq hk
        clear hk
        cases D.tup?_eq h1
        cases D.tup?_eq h2
        cases h3
        cases n1 with
        | tup s t => cases n2 with
          | tup s2 t2 => exact ⟨_, _, _, _, rfl, .inr ⟨(s.same R1.sub).sq, (s2.same R1.sub).sq, q1 G1 A1 H1 _ a1 R1 (y_zipT s t s2 t2)⟩⟩
/-! ## starred parts of a display -/
def aStar (f : FEx) (g : FAx) : FAx := fun r => bnd (f r) fun x => bnd (fun S => opt (alt (vw S x).tup? (vw S x).lst?) S) fun xs => bnd (g r) fun ys => ret (xs ++ ys)
/-! ## tables by data -/
def putD (kvs : List (Key × D)) (k : Key) (v : D) : List (Key × D) :=
  if (kvs.any fun kv => decide (kv.1 = k)) = true then kvs.map (fun kv => if kv.1 = k then (kv.1, v) else kv) else kvs ++ [(k, v)]
def mergeD (kvs more : List (Key × D)) : List (Key × D) := more.foldl (fun acc kv => putD acc kv.1 kv.2) kvs
section
variable {K : PySem.W.Frag} {G : Hp} {A : List Addr}
theorem DnKV.any (k : Key) : ∀ {vs : List (Key × V)} {ds : List (Key × D)}, DnKV K G A vs ds → (vs.any fun kv => decide (kv.1 = k)) = ds.any fun kv => decide (kv.1 = k)
  | _, _, .nil => rfl
  | _, _, .cons _ b => by simp [DnKV.any k b]
theorem DnKV.repl (k : Key) {y : V} {e : D} (h : Dn K G A y e) : ∀ {vs : List (Key × V)} {ds : List (Key × D)}, DnKV K G A vs ds →
    DnKV K G A (vs.map fun kv => if kv.1 = k then (kv.1, y) else kv) (ds.map fun kv => if kv.1 = k then (kv.1, e) else kv)
  | _, _, .nil => .nil
  | _, _, .cons (k := j) a b => by
    rw [List.map_cons, List.map_cons]
    by_cases hj : j = k
    · rw [if_pos hj, if_pos hj]; exact .cons h (DnKV.repl k h b)
    · rw [if_neg hj, if_neg hj]; exact .cons a (DnKV.repl k h b)
theorem DnKV.snoc (k : Key) {y : V} {e : D} (h : Dn K G A y e) : ∀ {vs : List (Key × V)} {ds : List (Key × D)}, DnKV K G A vs ds → DnKV K G A (vs ++ [(k, y)]) (ds ++ [(k, e)])
  | _, _, .nil => .cons h .nil
  | _, _, .cons a b => .cons a (DnKV.snoc k h b)
theorem DnKV.put (k : Key) {y : V} {e : D} (h : Dn K G A y e) {vs : List (Key × V)} {ds : List (Key × D)} (t : DnKV K G A vs ds) : DnKV K G A (putK vs k y) (putD ds k e) := by
  unfold putK putD
  rw [t.any k]
  split
  · exact t.repl k h
  · exact t.snoc k h
theorem DnKV.merge {ws : List (Key × V)} : ∀ {es : List (Key × D)} {vs : List (Key × V)} {ds : List (Key × D)}, DnKV K G A ws es → DnKV K G A vs ds → DnKV K G A (mergeK vs ws) (mergeD ds es) := by
  induction ws with
  | nil => intro es vs ds h t; cases h; exact t
  | cons w ws ih =>
    intro es vs ds h t
    cases h with
    | @cons k v _ d _ a b => exact (show DnKV K G A (mergeK (putK vs k v) ws) (mergeD (putD ds k d) _) from ih b (t.put k a))
end
/-! ## things that change -/
def tyOb : Ob → Option String
  | .lst _ => some "list"
  | .dct _ => some "dict"
  | _ => none
/-- a method that changes its object -/
def rMut (K : PySem.W.Frag) (T : String) (g : Sto → Nat → Ob → List D → Option (D × Ob)) : V → List V → Hp → VK → Prop := fun x xs H Q => ∃ G A S n a ob ds z ob', Rel K A S G H ∧ A[n]? = some a ∧ x = .ref a ∧ S[n]? = some ob ∧ tyOb ob = some T ∧ DnAll K G A xs ds ∧ g S n ob ds = some (z, ob') ∧
  ∀ H' v, Ex A G H A G H' → Rel K A (S.set n ob') G H' → Dn K G A v z → Q v H'
def MutD (X : Cx) (name : Str) (ts : List String) (g : Sto → Nat → Ob → List D → Option (D × Ob)) : Prop := ∀ T ∈ ts, ∃ id, MOk name T id ∧ MtM X id (rMut X.K T g)
def obIn (ts : List String) (o : Option Ob) : Option String := (o.bind tyOb).bind fun T => if T ∈ ts then some T else none
theorem obIn_eq {ts : List String} {o : Option Ob} {T : String} (h : obIn ts o = some T) : ∃ ob, o = some ob ∧ tyOb ob = some T ∧ T ∈ ts := by
  unfold obIn at h
  obtain ⟨T', e, h⟩ := Option.bind_eq_some_iff.mp h
  obtain ⟨ob, e1, e2⟩ := Option.bind_eq_some_iff.mp e
  split at h
  · rename_i hm; cases h; exact ⟨ob, e1, e2, hm⟩
  · cases h
def D.ref? : D → Option Nat
  | .ref n => some n
  | _ => none
theorem D.ref?_eq {d : D} {n : Nat} (h : d.ref? = some n) : d = .ref n := by
  cases d <;> simp [D.ref?] at h
  rw [h]
def mutAt (T : String) (g : Sto → Nat → Ob → List D → Option (D × Ob)) (n : Nat) (xs : List D) : M D := fun S => match S[n]? with
  | some ob => if tyOb ob = some T then (match g S n ob xs with
    | some p => .ok p.1 (S.set n p.2)
    | none => .no) else .no
  | none => .no
def eMut (ts : List String) (g : Sto → Nat → Ob → List D → Option (D × Ob)) (fo : FEx) (fa : FAx) : FEx := fun r => bnd (fo r) fun x => bnd (opt x.ref?) fun n => bnd (fun S => opt (obIn ts S[n]?) S) fun T => bnd (fa r) fun xs => mutAt T g n xs
theorem ob_ty {G H : Hp} {A : List Addr} {S : Sto} {n : Nat} {a : Addr} {ob : Ob} {T : String} (R : Rel X.K A S G H) (e : A[n]? = some a) (eo : S[n]? = some ob) (ht : tyOb ob = some T) : HasTy X (.ref a) T H := by
  have w := R.ob n a ob e eo
  cases ob with
  | lst ds => obtain ⟨vs, e1, t⟩ := w; exact hasTy_of R (d := .lst ds) (.lst e1 t) ht
  | dct ds => obtain ⟨vs, e1, t⟩ := w; exact hasTy_of R (d := .dct ds) (.dct e1 t) ht
  | ins _ _ => cases ht
  | dead => cases ht
  | tab _ => cases ht
  | err _ _ => cases ht
section
variable {o e : Expr} {es : List Expr} {name : Str} {apos cpos : Pos} {fo : FEx} {fs : FAx}
theorem fe_mut {ts : List String} {g : Sto → Nat → Ob → List D → Option (D × Ob)} (hm : MutD X name ts g) (ho : FE X EE o fo) (ha : FA X EE (e :: es) fs) (hbase : attributeBase o name X.env (eval o X.env) = eval o X.env := by rfl)
    (hfew : ((backTo cpos (starEach (e :: es) X.env)).all (fun x => !x.1) && (backToKw cpos (keywordEach [] X.env)).all (fun x => x.1.isSome)
      && decide ((e :: es).length + ([] : List Keyword).length + (if ([] : List Keyword).isEmpty then 0 else 1) < 30)) = true := by rfl)
    (hline : (apos.endLine == cpos.line) = true := by rfl) (hs : starEach (e :: es) X.env = (false, eval e X.env) :: starEach es X.env := by rfl) (hplain : (backTo cpos (starEach es X.env)).any (·.1) = false := by rfl) :
    FE X EE (.Call (.Attribute o name apos) (e :: es) [] cpos) (eMut ts g fo fs) := by
  refine pe_weak (pe_bmU ho ha hbase hfew hline hs hplain) fun s H Q ⟨r, G, A, S, hr, hR, q⟩ => ?_
  refine re_bnd hr hR q (fun _ _ z => z) fun G1 A1 H1 x d S1 a1 r1 R1 n1 q1 => ?_
  rw [post_bnd, post_opt] at q1
  obtain ⟨n, hn, q1⟩ := q1
  cases D.ref?_eq hn
  rw [post_bnd, post_opt] at q1
  obtain ⟨T, hT, q1⟩ := q1
  obtain ⟨ob, ho1, hT1, hT2⟩ := obIn_eq hT
  obtain ⟨id, ok, mt⟩ := hm T hT2
  cases n1 with
  | @ref _ a ea =>
  refine ⟨T, id, rMut X.K T g, ok, ob_ty R1 ea ho1 hT1, mt, ?_⟩
  refine ra_bnd r1 R1 q1 (fun _ _ z => z.mono a1) fun G2 A2 H2 xs ds S2 a2 r2 R2 n2 q2 => ?_
  unfold mutAt at q2
  split at q2
  · rename_i ob2 ho2
    split at q2
    · rename_i ht2
      split at q2
      · rename_i p hp
        exact ⟨G2, A2, S2, n, a, ob2, ds, p.1, p.2, R2, a2.p _ _ ea, rfl, ho2, ht2, n2, hp, fun H3 v a3 R3 n3 => q2 G2 A2 H3 v ((a1.trans a2).trans a3) R3 n3⟩
      · exact q2.elim
    · exact q2.elim
  · exact q2.elim
end
def appendD : Sto → Nat → Ob → List D → Option (D × Ob) := fun _ _ ob ds => match ob, ds with
  | .lst xs, [d] => if xs.length < 1000000 then some (.non, .lst (xs ++ [d])) else none
  | _, _ => none
theorem dat {G H : Hp} {A : List Addr} {S : Sto} {n : Nat} {a : Addr} (R : Rel X.K A S G H) (e : A[n]? = some a) : a ∈ A := List.mem_of_getElem? e
theorem mut_append : MutD X "append" ["list"] appendD := by
  intro T hT
  obtain rfl : T = "list" := by simpa using hT
  refine ⟨"list.append", ⟨F.plainAttrs_list, F.slot_list_append, F.type_list_append⟩, ?_⟩
  intro pins s σ H x xs v us Q I rx rv ⟨G, A, S, n, a, ob, ds, z, ob', R, ea, ex, eo, _, nd, hg, q⟩
  subst ex
  unfold appendD at hg
  split at hg
  · rename_i ys d
    split at hg
    · rename_i hl
      cases hg
      obtain ⟨vs, e1, t⟩ := R.ob n a _ ea eo
      cases nd with
      | @cons w _ _ _ nw nn =>
        cases nn
        refine mt_append pins s σ H (.ref a) [w] v us Q I rx rv ⟨a, vs, w, rfl, rfl, e1, by rw [t.length]; exact Nat.lt_of_lt_of_le hl (by decide), ?_⟩
        exact q _ _ (R.exWrite (dat R ea) _) (R.write ea (by rw [eo]; exact fun z => by cases z) ⟨_, upd_same, t.append (.cons nw .nil)⟩) .non
    · cases hg
  · cases hg
/-! ## x[i] = v -/
def setOb (ob : Ob) (i v : D) : Option Ob := match ob with
  | .lst xs => i.int?.bind fun k => (ixN xs.length k).map fun j => .lst (xs.set j v)
  | .dct kvs => i.key?.bind fun k => if kvs.length < 1000000 then some (.dct (putD kvs k v)) else none
  | _ => none
def rSetD (K : PySem.W.Frag) : V → V → V → Hp → (Hp → Prop) → Prop := fun o i v H Q => ∃ G A S n a ob di dv ob', Rel K A S G H ∧ A[n]? = some a ∧ o = .ref a ∧ S[n]? = some ob ∧ Dv K G A H i di ∧ Dn K G A v dv ∧ setOb ob di dv = some ob' ∧
  ∀ H', Ex A G H A G H' → Rel K A (S.set n ob') G H' → Q H'
theorem set_D (hu : X.A.units + 1 < cLine) : PSet X (rSetD X.K) := by
  intro pins s σ H o i v ov iv u Q I ro ri rv ⟨G, A, S, n, a, ob, di, dv, ob', R, ea, ex, eo, ni, nv, hg, q⟩
  subst ex
  cases ob with
  | lst xs =>
    obtain ⟨k, hk, hg⟩ := Option.bind_eq_some_iff.mp (show (di.int?.bind fun k => (ixN xs.length k).map fun j => Ob.lst (xs.set j dv)) = some ob' from hg)
    obtain ⟨j, hj, rfl⟩ := Option.map_eq_some_iff.mp hg
    cases D.int?_eq hk
    cases ni.intE
    obtain ⟨vs, e1, t⟩ := R.ob n a _ ea eo
    refine set_list pins s σ H _ _ _ ov iv u Q I ro ri rv ⟨a, vs, k, j, rfl, rfl, e1, by rw [t.length]; exact hj, ?_⟩
    exact q _ (R.exWrite (dat R ea) _) (R.write ea (by rw [eo]; exact fun z => by cases z) ⟨_, upd_same, t.set nv j⟩)
  | dct kvs =>
    obtain ⟨k, hk, hg⟩ := Option.bind_eq_some_iff.mp (show (di.key?.bind fun k => if kvs.length < 1000000 then some (Ob.dct (putD kvs k dv)) else none) = some ob' from hg)
    split at hg
    · rename_i hl
      cases hg
      obtain ⟨vs, e1, t⟩ := R.ob n a _ ea eo
      cases dv_key ni hk
      cases ro
      refine d_setItem hu I (DPut.k e1 (by rw [t.length]; exact Nat.lt_of_lt_of_le hl (by decide))) ri rv fun s' I' => ⟨_, I', ?_⟩
      exact q _ (R.exWrite (dat R ea) _) (R.write ea (by rw [eo]; exact fun z => by cases z) ⟨_, upd_same, t.put k nv⟩)
    · cases hg
  | ins _ _ => cases hg
  | dead => cases hg
  | tab _ => cases hg
  | err _ _ => cases hg
def setAt (n : Nat) (i v : D) : M Unit := fun S => match S[n]? with
  | some ob => match setOb ob i v with
    | some ob' => .ok () (S.set n ob')
    | none => .no
  | none => .no
def gSub' (fo fi : FEx) : FGx := fun d r => bnd (fo r) fun x => bnd (fi r) fun i => bnd (opt x.ref?) fun n => bnd (fun S => setAt n (vw S i) d S) fun _ => ret r
theorem fg_sub {o i : Expr} {fo fi : FEx} {pos : Pos} (hu : X.A.units + 1 < cLine) (ho : FE X EE o fo) (hi : FE X EE i fi)
    (ha : ∀ v, assign (.Subscript o i pos) X.env v = (do
      let ov ← holding [v] (eval o X.env)
      let iv ← holding [v, ov] (eval i X.env)
      standAt pos
      holding [v, ov, iv] (setItem ov iv v)
      release [v, ov, iv] []) := by intro _; rfl) : FG X EE (.Subscript o i pos) (gSub' fo fi) := by
  refine pg_weak (pg_sub ho hi (set_D hu) ha) fun v s H Q ⟨r, G, A, S, d, hr, hR, hd, q⟩ => ?_
  refine re_bnd hr hR q (fun _ _ z => z) fun G1 A1 H1 x dx S1 a1 r1 R1 n1 q1 => ?_
  refine re_bnd r1 R1 q1 (fun _ _ z => z.mono a1) fun G2 A2 H2 y e S2 a2 r2 R2 n2 q2 => ?_
  rw [post_bnd, post_opt] at q2
  obtain ⟨n, hn, q2⟩ := q2
  cases D.ref?_eq hn
  cases n1 with
  | @ref _ a ea =>
  rw [post_bnd] at q2
  unfold setAt at q2
  split at q2
  · rename_i ob ho
    split at q2
    · rename_i ob' hs
      have a12 := a1.trans a2
      exact ⟨G2, A2, S2, n, a, ob, _, d, ob', R2, a2.p _ _ ea, rfl, ho, R2.view n2, hd.mono a12.g a12.p, hs, fun H3 a3 R3 => q2 G2 A2 H3 s (a12.trans a3) R3 (r2.mono a3.g a3.p)⟩
    · exact q2.elim
  · exact q2.elim
/-! ## {} -/
def eNewD : FEx := fun _ S => .ok (.ref S.length) (S ++ [.dct []])
end
end FL
end
section
set_option Elab.async false
set_option linter.all false
set_option maxRecDepth 100000
set_option autoImplicit false
set_option maxHeartbeats 2000000
namespace FL
open PySem PySem.Spec PyProof.Rows L2
/-! ## only the first things are named -/
mutual
def D.lt (n : Nat) : D → Bool
  | .ref m => decide (m < n)
  | .lst xs => D.ltAll n xs
  | .tup xs => D.ltAll n xs
  | .dct kvs => D.ltKV n kvs
  | .non => true
  | .bl _ => true
  | .int _ => true
  | .str _ => true
  | .fn _ ds => D.ltAll n ds
  | .obj _ _ ds => D.ltAll n ds
def D.ltAll (n : Nat) : List D → Bool
  | [] => true
  | d :: ds => d.lt n && D.ltAll n ds
def D.ltKV (n : Nat) : List (Key × D) → Bool
  | [] => true
  | (_, d) :: ds => d.lt n && D.ltKV n ds
end
def Ob.lt (n : Nat) : Ob → Bool
  | .lst xs => D.ltAll n xs
  | .dct kvs => D.ltKV n kvs
  | .ins _ fs => D.ltAll n (fs.map (·.2))
  | .dead => true
  | .tab _ => true
  | .err _ fs => D.ltAll n (fs.map (·.2))
section
variable {K : PySem.W.Frag} {G : Hp} {A A' : List Addr}
mutual
theorem Dn.cut (hp : ∀ (i : Nat), i < A.length → A'[i]? = A[i]?) : ∀ (d : D) (v : V), Dn K G A' v d → d.lt A.length = true → Dn K G A v d
  | .non, _, h, _ => by cases h; exact .non
  | .bl b, _, h, _ => by cases h; exact .bl b
  | .int i, _, h, _ => by cases h; exact .int i
  | .str x, _, h, _ => by cases h with | str _ o => exact .str x o
  | .lst ds, _, h, l => by cases h with | lst s t => exact .lst s (DnAll.cut hp ds _ t (by simpa [D.lt] using l))
  | .tup ds, _, h, l => by cases h with | tup s t => exact .tup s (DnAll.cut hp ds _ t (by simpa [D.lt] using l))
  | .dct kds, _, h, l => by cases h with | dct s t => exact .dct s (DnKV.cut hp kds _ t (by simpa [D.lt] using l))
  | .ref n, _, h, l => by cases h with | ref q => exact .ref (by rw [← hp n (by simpa [D.lt] using l)]; exact q)
  | .fn f ds, _, h, l => by cases h with | fn q t => exact .fn q (DnAll.cut hp ds _ t (by simpa [D.lt] using l))
  | .obj C ks ds, _, h, l => by cases h with | obj q z t => exact .obj q z (DnAll.cut hp ds _ t (by simpa [D.lt] using l))
theorem DnAll.cut (hp : ∀ (i : Nat), i < A.length → A'[i]? = A[i]?) : ∀ (ds : List D) (vs : List V), DnAll K G A' vs ds → D.ltAll A.length ds = true → DnAll K G A vs ds
  | [], _, h, _ => by cases h; exact .nil
  | d :: ds, _, h, l => by
    have l' : d.lt A.length = true ∧ D.ltAll A.length ds = true := by simpa [D.ltAll] using l
    cases h with | cons a b => exact .cons (Dn.cut hp d _ a l'.1) (DnAll.cut hp ds _ b l'.2)
theorem DnKV.cut (hp : ∀ (i : Nat), i < A.length → A'[i]? = A[i]?) : ∀ (ds : List (Key × D)) (vs : List (Key × V)), DnKV K G A' vs ds → D.ltKV A.length ds = true → DnKV K G A vs ds
  | [], _, h, _ => by cases h; exact .nil
  | (k, d) :: ds, _, h, l => by
    have l' : d.lt A.length = true ∧ D.ltKV A.length ds = true := by simpa [D.ltKV] using l
    cases h with | cons a b => exact .cons (Dn.cut hp d _ a l'.1) (DnKV.cut hp ds _ b l'.2)
end
mutual
theorem Dn.isLt : ∀ (d : D) (v : V), Dn K G A v d → d.lt A.length = true
  | .non, _, _ => rfl
  | .bl b, _, _ => rfl
  | .int i, _, _ => rfl
  | .str x, _, _ => rfl
  | .lst ds, _, h => by cases h with | lst s t => simpa [D.lt] using DnAll.isLt ds _ t
  | .tup ds, _, h => by cases h with | tup s t => simpa [D.lt] using DnAll.isLt ds _ t
  | .dct kds, _, h => by cases h with | dct s t => simpa [D.lt] using DnKV.isLt kds _ t
  | .ref n, _, h => by cases h with | ref q => simpa [D.lt] using (List.getElem?_eq_some_iff.mp q).1
  | .fn f ds, _, h => by cases h with | fn q t => simpa [D.lt] using DnAll.isLt ds _ t
  | .obj C ks ds, _, h => by cases h with | obj q z t => simpa [D.lt] using DnAll.isLt ds _ t
theorem DnAll.isLt : ∀ (ds : List D) (vs : List V), DnAll K G A vs ds → D.ltAll A.length ds = true
  | [], _, _ => rfl
  | d :: ds, _, h => by cases h with | cons a b => simp [D.ltAll, Dn.isLt d _ a, DnAll.isLt ds _ b]
theorem DnKV.isLt : ∀ (ds : List (Key × D)) (vs : List (Key × V)), DnKV K G A vs ds → D.ltKV A.length ds = true
  | [], _, _ => rfl
  | (k, d) :: ds, _, h => by cases h with | cons a b => simp [D.ltKV, Dn.isLt d _ a, DnKV.isLt ds _ b]
end
theorem ObR.isLt {H : Hp} {a : Addr} {o : Ob} (h : ObR K G A H a o) : o.lt A.length = true := by
  cases o with
  | lst ds => obtain ⟨vs, _, t⟩ := h; exact DnAll.isLt ds _ t
  | dct ds => obtain ⟨vs, _, t⟩ := h; exact DnKV.isLt ds _ t
  | ins C fs => obtain ⟨_, _, _, t⟩ := h; exact DnAll.isLt _ _ t
  | dead => rfl
  | tab _ => rfl
  | err C fs => obtain ⟨_, _, _, _, _, _, _, _, _, t⟩ := h; exact DnAll.isLt _ _ t
theorem ObR.cut {H : Hp} {a : Addr} {o : Ob} (hp : ∀ (i : Nat), i < A.length → A'[i]? = A[i]?) (h : ObR K G A' H a o) (l : o.lt A.length = true) : ObR K G A H a o := by
  cases o with
  | lst ds => obtain ⟨vs, e, t⟩ := h; exact ⟨vs, e, DnAll.cut hp ds _ t l⟩
  | dct ds => obtain ⟨vs, e, t⟩ := h; exact ⟨vs, e, DnKV.cut hp ds _ t l⟩
  | ins C fs => obtain ⟨dx, vs, e, t⟩ := h; exact ⟨dx, vs, e, DnAll.cut hp _ _ t l⟩
  | dead => trivial
  | tab _ => exact h
  | err C fs => obtain ⟨oe, us, dd, vs, e, h1, h2, h3, h4, t⟩ := h; exact ⟨oe, us, dd, vs, e, h1, h2, h3, h4, DnAll.cut hp _ _ t l⟩
end
/-! ## the end of a call -/
/-- what the caller holds names nothing new -/
def Kept (S S' : Sto) : Prop := ∀ (i : Nat) (o : Ob), i < S.length → S'[i]? = some o → S[i]? = some o ∨ o.lt S.length = true
/-- a value handed out: a thing that is no more held by anybody else never changes again -/
def handed (L : Nat) (S' : Sto) (d : D) : Option D := if d.lt L = true then some d else match d.ref?.bind fun n => S'[n]? with
  | some (.lst xs) => if D.ltAll L xs = true then some (.lst xs) else none
  | some (.dct xs) => if D.ltKV L xs = true then some (.dct xs) else none
  | _ => none
theorem handed_eq {L : Nat} {S' : Sto} {d d' : D} (h : handed L S' d = some d') : (d.lt L = true ∧ d' = d) ∨ ∃ n, d = .ref n ∧ L ≤ n ∧ ((∃ xs, S'[n]? = some (.lst xs) ∧ D.ltAll L xs = true ∧ d' = .lst xs) ∨ ∃ xs, S'[n]? = some (.dct xs) ∧ D.ltKV L xs = true ∧ d' = .dct xs) := by
  unfold handed at h
  split at h
  · rename_i hl; cases h; exact .inl ⟨hl, rfl⟩
  · rename_i hl
    have key : ∀ o, (d.ref?.bind fun n => S'[n]?) = some o → ∃ n, d = .ref n ∧ L ≤ n ∧ S'[n]? = some o := fun o ho => by
      obtain ⟨n, hn, ho⟩ := Option.bind_eq_some_iff.mp ho
      cases D.ref?_eq hn
      exact ⟨n, rfl, by simpa [D.lt] using hl, ho⟩
    split at h
    · rename_i xs hx
      obtain ⟨n, h1, h2, h3⟩ := key _ hx
      split at h
      · rename_i hy; cases h; exact .inr ⟨n, h1, h2, .inl ⟨xs, h3, hy, rfl⟩⟩
      · cases h
    · rename_i xs hx
      obtain ⟨n, h1, h2, h3⟩ := key _ hx
      split at h
      · rename_i hy; cases h; exact .inr ⟨n, h1, h2, .inr ⟨xs, h3, hy, rfl⟩⟩
      · cases h
    · cases h
open Classical in
noncomputable def cutR (S : Sto) (d : D) (S' : Sto) : R D := if S'.length = S.length then .ok d S' else if Kept S S' then (match handed S.length S' d with
  | some d' => .ok d' (S'.take S.length)
  | none => .no) else .no
theorem pre_take {A A' : List Addr} (p : Pre A A') : ∀ (i : Nat), i < A.length → A'[i]? = A[i]? := fun i h => by
  have e : A[i]? = some A[i] := List.getElem?_eq_getElem h
  rw [e]
  exact p i _ e
theorem pre_eq {A A' : List Addr} (p : Pre A A') (h : A'.length = A.length) : A' = A := by
  apply List.ext_getElem?
  intro i
  by_cases hi : i < A.length
  · exact pre_take p i hi
  · rw [List.getElem?_eq_none (by omega), List.getElem?_eq_none (by omega)]
section
variable {K : PySem.W.Frag} {G G' H H' : Hp} {A A' : List Addr} {S S' : Sto}
theorem Ex.cut (e : Ex A G H A' G' H') : Ex A G H A G' H' := ⟨e.g, Pre.refl _, fun a o n q => ⟨n, (e.f a o n q).2⟩, e.kx, e.l⟩
theorem Rel.cut (R0 : Rel K A S G H) (e : Ex A G H A' G' H') (R : Rel K A' S' G' H') (k : Kept S S') : Rel K A (S'.take S.length) G' H' := by
  have hp := pre_take e.p
  have hm : ∀ a ∈ A, a ∈ A' := fun a m => by
    obtain ⟨i, hi⟩ := List.getElem?_of_mem m
    exact List.mem_of_getElem? (e.p i a hi)
  have hle : A.length ≤ A'.length := by
    rcases Nat.lt_or_ge A'.length A.length with h | h
    · have := hp (A.length - 1) (by omega)
      rw [List.getElem?_eq_none (by omega), List.getElem?_eq_getElem (by omega)] at this
      cases this
    · exact h
  refine ⟨R.sub, ?_, R0.nd, fun n a m hd => R.dis n a (e.p n a m) (fun z => hd (by
    have hn : n < S.length := by rw [← R0.len]; exact (List.getElem?_eq_some_iff.mp m).1
    rw [List.getElem?_take_of_lt hn]; exact z)), fun a m => R.live a (hm a m), fun n a o e1 e2 => ?_, R.nt⟩
  · rw [List.length_take, ← R.len, ← R0.len]; omega
  · have hn : n < S.length := by rw [← R0.len]; exact (List.getElem?_eq_some_iff.mp e1).1
    rw [List.getElem?_take_of_lt hn] at e2
    have w := R.ob n a o (e.p n a e1) e2
    refine w.cut hp ?_
    rcases k n o hn e2 with h | h
    · exact (R0.ob n a o e1 h).isLt
    · rw [R0.len]; exact h
/-- a value at the end of a call -/
theorem cut_post {Q : VK} {v : V} {d : D} {Ep : Exn → Sto → Prop} (R0 : Rel K A S G H) (e : Ex A G H A' G' H') (R : Rel K A' S' G' H') (n : Dn K G' A' v d) (q : (cutR S d S').post (QV K G A H Q) Ep) : Q v H' := by
  unfold cutR at q
  split at q
  · rename_i hl
    have hA : A' = A := pre_eq e.p (by rw [R.len, R0.len]; exact hl)
    subst hA
    exact q G' A' H' v e R n
  · split at q
    · rename_i hk
      split at q
      · rename_i d' hd
        have R1 := R0.cut e R hk
        have e1 := e.cut
        have hp := pre_take e.p
        rcases handed_eq hd with ⟨hl, rfl⟩ | ⟨m, rfl, hm, hh⟩
        · exact q G' A H' v e1 R1 (Dn.cut hp _ v n (by rw [R0.len]; exact hl))
        · cases n with
          | @ref _ a ea =>
          have hG : G' a = none := R.dis m a ea (by
            rcases hh with ⟨xs, hx, _⟩ | ⟨xs, hx, _⟩ <;> (rw [hx]; exact fun z => by cases z))
          have hnA : a ∉ A := fun z => by
            obtain ⟨i, hi⟩ := List.getElem?_of_mem z
            obtain ⟨h1, f1⟩ := List.getElem?_eq_some_iff.mp ea
            obtain ⟨h2, f2⟩ := List.getElem?_eq_some_iff.mp (e.p i a hi)
            have hi' : i < A.length := (List.getElem?_eq_some_iff.mp hi).1
            have e3 : m = i := (List.getElem_inj R.nd).mp (f1.trans f2.symm)
            rw [R0.len] at hi'
            omega
          have hH : H a = none := by
            cases z : H a with
            | none => rfl
            | some o => exact absurd (List.mem_of_getElem? ea) (e.f a o hnA z).1
          rcases hh with ⟨xs, hx, hl, rfl⟩ | ⟨xs, hx, hl, rfl⟩
          · obtain ⟨vs, hv, t⟩ := R.ob m a _ ea hx
            exact q _ A H' _ (e1.freeze hH hG _) (R1.freeze hG hnA hv) (.lst (.inl (.of upd_same)) ((DnAll.cut hp xs _ t (by rw [R0.len]; exact hl)).mono (upd_same_of hG) (Pre.refl _)))
          · obtain ⟨vs, hv, t⟩ := R.ob m a _ ea hx
            exact q _ A H' _ (e1.freeze hH hG _) (R1.freeze hG hnA hv) (.dct upd_same ((DnKV.cut hp xs _ t (by rw [R0.len]; exact hl)).mono (upd_same_of hG) (Pre.refl _)))
      · exact q.elim
    · exact q.elim
end
/-! ## defs -/
open Classical in
noncomputable def cutX (S : Sto) (x : Exn) (S' : Sto) : R D := if S'.length = S.length then .ex x S' else if Kept S S' ∧ D.ltAll S.length x.ds = true then .ex x (S'.take S.length) else .no
/-- keep: what the def has made may still change behind the call -/
noncomputable def doneR (keep : Bool) (S : Sto) : R Fl → R D
  | .ok (.nx _) S' => if keep then .ok .non S' else cutR S .non S'
  | .ok (.rt d) S' => if keep then .ok d S' else cutR S d S'
  | .ok _ _ => .no
  | .ex x S' => if keep then .ex x S' else cutX S x S'
  | .no => .no
def startE (n : Nat) (ds : List D) : Env := ds.map some ++ List.replicate (n - ds.length) none
noncomputable def dBody (keep : Bool) (n : Nat) (fb : FSx) (ds : List D) : M D := fun S => doneR keep S (fb (startE n ds) S)
theorem envR_start {K : PySem.W.Frag} {G : Hp} {A : List Addr} {N : List Str} {vs : List V} {ds : List D} (t : DnAll K G A vs ds) : EnvR K G A (L2.start N vs) (startE N.length ds) := by
  have hl := t.length
  refine ⟨by simp [L2.start, startE, hl], fun i d e => ?_⟩
  unfold startE at e
  unfold L2.start
  by_cases hi : i < ds.length
  · rw [List.getElem?_append_left (by simpa using hi), List.getElem?_map] at e
    have e1 : ds[i]? = some d := by
      cases z : ds[i]? with
      | none => rw [z] at e; cases e
      | some y => rw [z] at e; cases e; rfl
    obtain ⟨v, ev, nv⟩ := t.get e1
    exact ⟨v, by rw [List.getElem?_append_left (by simpa [hl] using hi), List.getElem?_map, ev] <;> rfl, nv⟩
  · rw [List.getElem?_append_right (by simpa using hi), List.getElem?_replicate] at e
    split at e <;> cases e
theorem cutX_post {K : PySem.W.Frag} {mg : Str → Option Value} {E : XK} {G G' H H' : Hp} {A A' : List Addr} {S S' : Sto} {x : Exn} {c : Value} {dx : Option Addr} {Qp : D → Sto → Prop} (R0 : Rel K A S G H) (e : Ex A G H A' G' H') (R : Rel K A' S' G' H') (n : XR mg K G' A' H' x c dx)
    (q : (cutX S x S').post Qp (QE K mg E G A H)) : E c dx H' := by
  unfold cutX at q
  split at q
  · rename_i hl
    have hA : A' = A := pre_eq e.p (by rw [R.len, R0.len]; exact hl)
    subst hA
    exact q G' A' H' c dx e R n
  · split at q
    · rename_i hk
      obtain ⟨h1, d, vs, h2, h3, h4, h5, h6⟩ := n
      exact q G' A H' c dx e.cut (R0.cut e R hk.1) ⟨h1, d, vs, h2, h3, DnAll.cut (pre_take e.p) _ _ h4 (by rw [R0.len]; exact hk.2), fun z => h5 (e.p.mem z), h6⟩
    · exact q.elim
/-- what is known of the guards of what is shown -/
class Gds where
  gd : Around → Prop
  deep : ∀ (B : Around) (e : PySem.Env), gd B → gd (B.deeper e)
@[reducible] instance (priority := low) gds0 : Gds := ⟨fun B => B.guards = some [], fun _ _ h => h⟩
/-- nothing -/
@[reducible] def gdsN : Gds := ⟨fun _ => True, fun _ _ h => h⟩
section
variable [Gds]
/-- a def by its mirror; the guards of what is shown are known -/
def FnD (P : Program) (w : World) (K : PySem.W.Frag) (mg : Str → Option Value) (base : Heap) (CX : CXT) (k : Nat) (f : Addr) (fd : FuncData) (ps : List Str) (F : List D → M D) : Prop :=
  ∀ (B : Around) (outer : List PySem.Env) (s : Shared) (H : Hp) (args : Args) (us : List Value) (vs : List V) (Q : VK) (E : XK) (G : Hp) (A : List Addr) (S : Sto) (ds : List D),
    Room k B → Gds.gd B → Env0 P w K mg base B outer s H → BindsTo s fd args (ps.zip us) → Vals vs us → vs.length = ps.length →
    Rel K A S G H → DnAll K G A vs ds → (F ds S).post (QV K G A H Q) (QE K mg E G A H) → codeAny (model P w) B (.call (.ref f) args) (CR CX outer P w H s Q E) s
theorem FnD.mono {P : Program} {w : World} {K : PySem.W.Frag} {mg : Str → Option Value} {base : Heap} {CX : CXT} {j k : Nat} {f : Addr} {fd : FuncData} {ps : List Str} {F : List D → M D} (h : FnD P w K mg base CX j f fd ps F) (hk : j ≤ k) : FnD P w K mg base CX k f fd ps F :=
  fun B outer s H args us vs Q E G A S ds hr => h B outer s H args us vs Q E G A S ds (hr.mono hk)
section
variable {P : Program} {w : World} {K : PySem.W.Frag} {mg : Str → Option Value} {base : Heap} {CX : CXT} {k : Nat} {f : Addr} {fd : FuncData} {N ps : List Str} {x qual : Str} {params : Arguments} {body : List Stmt} {scope : Scope} {dfv : List V} {kwv : List (Str × V)} {fb : FSx} {keep : Bool}
/-- a def's mirror by the mirror of its body -/
theorem fnd_of (F : FunD K x qual params body scope dfv kwv f fd) (Sc : FnScope N ps scope)
    (hbody : ∀ (cdv : Value), fd.code = cdv → ∀ (B : Around) (outer : List PySem.Env) (s : Shared) (H : Hp) (E : XK), Room k (B.deeper (envOfC qual scope s.heap.objs.size f cdv)) → Gds.gd (B.deeper (envOfC qual scope s.heap.objs.size f cdv)) →
      FSs (cxOf CX P w K mg base N qual scope f cdv B outer s H E) E body fb) :
    FnD P w K mg base CX (k + 1) f fd ps (dBody keep N.length fb) := by
  obtain ⟨oc, od, dV, kV, doc, pm, an, cdv, ct, osl, rfl, lk, hcd, _⟩ := F.ex
  intro B outer s H args us vs Q E G A S ds hr hgd e0 hb r hl R0 t q
  have hmem : ∀ b o, base.get? b = some o → s.heap.get? b = some o := fun b o z => (e0.bs b o z).1
  have hin : K.In s.heap := e0.mod.kin.keeps hmem
  refine codeAny_call_function hr.depth (hin _ _ lk) rfl Sc.co Sc.gen rfl (PySem.W.codeRec_of hin hcd) (hb _ _ _ _ (wpAny_newFunctionEnv_cells Sc.kind ?_ ?_))
  · rintro ⟨n, v⟩ hy
    exact (Sc.par n (List.of_mem_zip hy).1).imp (fun z => z) fun z => ⟨z, PySem.W.cellsFrom_some _ _ _ (.inl z)⟩
  · rintro env rfl s1 ic
    refine ⟨(e0.mod.nolimit.keeps hmem).keeps ic.toInCall.keep, codeAny_func ?_⟩
    have I := inv_start (CX := CX) (E := E) Sc hr.hd e0 hl r ic
    have run := (hbody cdv rfl B outer s H E (hr.deeper _) (Gds.deep _ _ hgd)).run [] s1 (L2.start N vs) H { nx := fun _ H' => Q .non H', rt := Q } I ⟨startE N.length ds, G, A, S, envR_start t, R0, by
      unfold dBody doneR at q
      refine (show ∀ m : R Fl, (doneR keep S m).post (QV K G A H Q) (QE K mg E G A H) → m.post (QF K G A H { nx := fun _ H' => Q .non H', rt := Q }) (QE K mg E G A H) from fun m q => ?_) _ q
      cases m with
      | no => exact q.elim
      | ex x S' =>
        cases keep with
        | true => exact q
        | false => exact fun G' A' H' c dx e1 R1 n1 => cutX_post R0 e1 R1 n1 q
      | ok fl S' =>
        cases fl with
        | nx r' =>
          cases keep with
          | true => exact fun G' A' H' s' e1 R1 _ => q G' A' H' .non e1 R1 .non
          | false => exact fun G' A' H' s' e1 R1 _ => cut_post R0 e1 R1 .non q
        | rt d =>
          cases keep with
          | true => exact q
          | false => exact fun G' A' H' v e1 R1 n1 => cut_post R0 e1 R1 n1 q
        | bk r' => exact q.elim
        | ct r' => exact q.elim⟩
    refine wpAny_mono run (fun fl s' hs => ?_) fun _ _ z => z
    cases fl with
    | ret u => obtain ⟨v, _, H', J, rv, qv⟩ := hs; exact ⟨v, H', J.os, J.bare, J.base, J.hok, rv, qv⟩
    | next => obtain ⟨_, H', J, qv⟩ := hs; exact ⟨V.non, H', J.os, J.bare, J.base, J.hok, rfl, qv⟩
    | brk => obtain ⟨_, _, _, qv⟩ := hs; exact qv.elim
    | cont => obtain ⟨_, _, _, qv⟩ := hs; exact qv.elim
/-- .. which raises nothing -/
theorem fnd_of0 (F : FunD K x qual params body scope dfv kwv f fd) (Sc : FnScope N ps scope)
    (hbody : ∀ (cdv : Value) (B : Around) (outer : List PySem.Env) (s : Shared) (H : Hp) (E : XK), Room k (B.deeper (envOfC qual scope s.heap.objs.size f cdv)) → Gds.gd (B.deeper (envOfC qual scope s.heap.objs.size f cdv)) →
      FSs (cxOf C8.CX0 P w K mg base N qual scope f cdv B outer s H E).nox E body fb) :
    FnD P w K mg base C8.CX0 (k + 1) f fd ps (dBody keep N.length fb) :=
  fnd_of F Sc fun cdv _ B outer s H E hr hg => (hbody cdv B outer s H E hr hg).nox
end
/-! ## calls of defs -/
/-- how n written values and the keywords' values (names ks) are bound -/
structure BdD (K : PySem.W.Frag) (fd : FuncData) (ps : List Str) (n : Nat) (ks : List Str) (g : List D → List D → List D) : Prop where
  ex : ∃ (gU : List Value → List Value → List Value) (gV : List V → List V → List V),
    (∀ (s : Shared) (us ws : List Value), K.In s.heap → us.length = n → ws.length = ks.length → BindsTo s fd ⟨us, ks.zip ws⟩ (ps.zip (gU us ws))) ∧
    (∀ (vs zs : List V) (us ws : List Value), vs.length = n → zs.length = ks.length → Vals vs us → Vals zs ws → Vals (gV vs zs) (gU us ws)) ∧
    (∀ (G : Hp) (A : List Addr) (vs zs : List V) (ds es : List D), vs.length = n → zs.length = ks.length → DnAll K G A vs ds → DnAll K G A zs es → DnAll K G A (gV vs zs) (g ds es)) ∧
    ∀ (vs zs : List V), vs.length = n → zs.length = ks.length → (gV vs zs).length = ps.length
def gAll (ds _ : List D) : List D := ds
theorem bdd_all {K : PySem.W.Frag} {fd : FuncData} {ps : List Str} (h : Binds K fd ps []) : BdD K fd ps ps.length [] gAll :=
  ⟨fun us _ => us, fun vs _ => vs, fun s us ws hk h1 h2 => by
    have e : ws = [] := List.length_eq_zero_iff.mp h2
    subst e
    have := h s us hk (by simpa using h1)
    simpa using this, fun vs zs us ws _ _ r _ => r, fun G A vs zs ds es _ _ r _ => r, fun vs zs h1 _ => h1⟩
def gDef (dd ds _ : List D) : List D := ds ++ dd
theorem bdd_def {K : PySem.W.Frag} {fd : FuncData} {ps : List Str} {dvs : List V} {dd : List D} (n : Nat) (h : ∃ dsv, Vals dvs dsv ∧ Binds K fd ps dsv) (hd : ∀ G A, DnAll K G A dvs dd) (hn : n + dd.length = ps.length) : BdD K fd ps n [] (gDef dd) := by
  obtain ⟨dsv, r, b⟩ := h
  have l1 : dvs.length = dd.length := (hd (fun _ => none) []).length
  have l2 := r.length
  exact ⟨fun us _ => us ++ dsv, fun vs _ => vs ++ dvs, fun s us ws hk h1 h2 => by
    have e : ws = [] := List.length_eq_zero_iff.mp h2
    subst e
    exact b s us hk (by rw [List.length_append]; omega), fun vs zs us ws _ _ q _ => q.append r, fun G A vs zs ds es _ _ q _ => q.append (hd G A), fun vs zs h1 _ => by rw [List.length_append]; omega⟩
/-- a def that may be called by its name -/
structure CalD (P : Program) (w : World) (K : PySem.W.Frag) (mg : Str → Option Value) (base : Heap) (CX : CXT) (k : Nat) (x : Str) (n : Nat) (ks : List Str) (g : List D → List D → List D) (F : List D → M D) : Prop where
  ex : ∃ (f : Addr) (fd : FuncData) (ps : List Str), FnD P w K mg base CX k f fd ps F ∧ mg x = some (.ref f) ∧ PySem.W.keepIn K (.ref f) = true ∧ BdD K fd ps n ks g
def eCall (n m : Nat) (g : List D → List D → List D) (F : List D → M D) (fa fk : FAx) : FEx := fun r => bnd (fa r) fun ds => bnd (fk r) fun es => if ds.length = n ∧ es.length = m then F (g ds es) else fun _ => .no
abbrev FK (X : Cx) (EE : XK) (kws : List Keyword) (f : FAx) : Prop := PK X kws (RA X EE f)
section
variable {X : Cx} {EE : XK} {CX : CXT} {k j n : Nat} {x : Str} {ks : List Str} {g : List D → List D → List D} {F : List D → M D} {p pos : Pos} {e : Expr} {es : List Expr} {kws : List Keyword} {fa fk : FAx}
theorem pk_weak {t t' : TA} (h : PK X kws t) (w : ∀ s H Q, t' s H Q → t s H Q) : PK X kws t' := ⟨fun pos pins s σ H Q I q => h.run pos pins s σ H Q I (w _ _ _ q)⟩
theorem fk_nil : FK X EE [] aNil := by
  refine pk_weak pk_nil fun s H Q ⟨r, G, A, S, hr, hR, q⟩ => ?_
  exact q G A H [] Ex.refl hR .nil
theorem fk_cons {nm : Option Str} {kpos : Pos} {fe : FEx} (ha : FE X EE e fe) (hr : FK X EE kws fk) : FK X EE (⟨nm, e, kpos⟩ :: kws) (aCons fe fk) := by
  refine pk_weak (pk_cons ha hr) fun s H Q ⟨r, G, A, S, hr, hR, q⟩ => ?_
  refine re_bnd hr hR q (fun _ _ z => z) fun G1 A1 H1 x d S1 a1 r1 R1 n1 q1 => ?_
  refine ra_bnd r1 R1 q1 (fun _ _ z => z.mono a1) fun G2 A2 H2 y e S2 a2 r2 R2 n2 q2 => ?_
  exact q2 G2 A2 H2 _ (a1.trans a2) R2 (.cons (n1.mono a2.g a2.p) n2)
/-- the values are there: the def runs -/
theorem run_cal (c : CalD X.prog X.w X.K X.mg X.base CX k x n ks g F) {f : Addr} (hm : X.mg x = some (.ref f)) (hr : Room k X.A) (hgd : Gds.gd X.A) (hx : Passes CX X EE) {pins : List (Addr × Obj)} {σ : L2.St} {H : Hp} {s : Shared} {Q : VK} {us ws : List Value} {vs zs : List V} {G : Hp} {A : List Addr} {S : Sto} {ds es : List D}
    (I : Inv X pins σ H s) (r : Vals vs us) (rz : Vals zs ws) (R : Rel X.K A S G H) (t : DnAll X.K G A vs ds) (tz : DnAll X.K G A zs es) (h1 : ds.length = n) (h2 : es.length = ks.length) (q : (F (g ds es) S).post (QV X.K G A H Q) (QE X.K X.mg EE G A H)) :
    wpAny (model X.prog X.w) X.A (call (.ref f) us (ks.zip ws)) (EP X pins σ Q) X.xe s := by
  obtain ⟨f', fd, ps, hF, hm', hk, gU, gV, b1, b2, b3, b4⟩ := c
  rw [hm] at hm'
  cases hm'
  have l1 : vs.length = n := t.length.trans h1
  have l2 : zs.length = ks.length := tz.length.trans h2
  refine wpAny_call (codeAny_mono (hF X.A X.stack s H ⟨us, ks.zip ws⟩ (gU us ws) (gV vs zs) Q EE G A S (g ds es) hr hgd I.env0 (b1 s us ws I.kIn (r.length.symm.trans l1) (rz.length.symm.trans l2)) (b2 _ _ _ _ l1 l2 r rz) (b4 _ _ l1 l2) R (b3 G A _ _ _ _ l1 l2 t tz) q) fun o s' hq => ?_)
  cases o with
  | error u => exact hx pins σ H s u s' I hq
  | ok fl =>
    cases fl with
    | ret u => exact I.after hq
    | next => exact hq.elim
    | brk => exact hq.elim
    | cont => exact hq.elim
theorem CalD.fn (c : CalD X.prog X.w X.K X.mg X.base CX k x n ks g F) : ∃ f, X.mg x = some (.ref f) ∧ PySem.W.keepIn X.K (.ref f) = true := by
  obtain ⟨f, fd, ps, _, h1, h2, _⟩ := c
  exact ⟨f, h1, h2⟩
theorem fe_call (c : CalD X.prog X.w X.K X.mg X.base CX k x n [] g F) (hr : Room j X.A) (hk : k ≤ j) (hgd : Gds.gd X.A) (hg : Gl X x) (hx : Passes CX X EE) (ha : FA X EE (e :: es) fa)
    (hdb : (x == ("__debug__" : Str)) = false := by decide) (he : starEach (e :: es) X.env = (false, eval e X.env) :: starEach es X.env := by rfl) (hpl : (backTo pos (starEach es X.env)).any (·.1) = false := by rfl) :
    FE X EE (.Call (.Name x p) (e :: es) [] pos) (eCall n 0 g F fa aNil) := by
  obtain ⟨f, hm, hkp⟩ := c.fn
  refine ⟨fun pins s σ H Q I ⟨r, G, A, S, hr0, hR, q⟩ => ?_⟩
  refine wpAny_Call_Name_kw (ld_glob I hg hm ?_ hdb)
  refine PySem.W.callWith_K (h₀ := X.base) I.ok.mod.kin hkp (thn (ha.run pos pins s σ H (fun vs H1 => ∃ G1 A1 S1 ds, Rel X.K A1 S1 G1 H1 ∧ DnAll X.K G1 A1 vs ds ∧ ds.length = n ∧ (F (g ds []) S1).post (QV X.K G1 A1 H1 Q) (QE X.K X.mg EE G1 A1 H1)) I ?_) fun us s1 ⟨vs, H1, I1, rv, G1, A1, S1, ds, R1, t1, l1, q1⟩ => ⟨I1.kIn, ?_⟩) he hpl
  · refine ra_bnd hr0 hR q (fun _ _ z => z) fun G1 A1 H1 vs ds S1 a1 r1 R1 n1 q1 => ?_
    have q1 : ((if ds.length = n ∧ ([] : List D).length = 0 then F (g ds []) else fun _ => .no) S1).post (QV X.K G A H Q) (QE X.K X.mg EE G A H) := q1
    split at q1
    · rename_i hl
      exact ⟨G1, A1, S1, ds, R1, n1, hl.1, q1.mono (fun _ _ z => z.mono a1) fun _ _ z => z.mono a1⟩
    · exact q1.elim
  · exact run_cal c hm (hr.mono hk) hgd hx I1 (ws := []) (zs := []) (es := []) rv .nil R1 t1 .nil l1 rfl q1
theorem fe_call0 (c : CalD X.prog X.w X.K X.mg X.base CX k x 0 [] g F) (hr : Room j X.A) (hk : k ≤ j) (hgd : Gds.gd X.A) (hg : Gl X x) (hx : Passes CX X EE)
    (hdb : (x == ("__debug__" : Str)) = false := by decide) : FE X EE (.Call (.Name x p) [] [] pos) (eCall 0 0 g F aNil aNil) := by
  obtain ⟨f, hm, hkp⟩ := c.fn
  refine ⟨fun pins s σ H Q I ⟨r, G, A, S, hr0, hR, q⟩ => ?_⟩
  refine wpAny_Call_Name_kw (ld_glob I hg hm ?_ hdb)
  exact PySem.W.callWith_K0 I.kIn hkp (run_cal c hm (hr.mono hk) hgd hx I (us := []) (vs := []) (ds := []) (ws := []) (zs := []) (es := []) .nil .nil hR .nil .nil rfl rfl q)
end
end
end FL
end
section
set_option Elab.async false
set_option linter.all false
set_option maxRecDepth 100000
set_option autoImplicit false
set_option maxHeartbeats 2000000
namespace FL
open PySem PySem.Spec PyProof.Rows L2
/-! ## sorted: texts, or tuples whose first items are texts that differ -/
def hkV : Option Value → List Nat
  | some (.str x _) => x.cps.toList
  | _ => []
def hkD : Data → List Nat
  | .seq its _ => hkV its[0]?
  | _ => []
def hkO : Option Obj → List Nat
  | some ob => hkD ob.data
  | none => []
def hk (h : Heap) : Value → List Nat
  | .str x _ => x.cps.toList
  | .ref a => hkO (h.get? a)
  | _ => []
def hlt (h : Heap) (v u : Value) : Bool := decide (hk h v < hk h u)
/-- a tuple that begins with a text -/
def HTup (h : Heap) (v : Value) (x : Str) : Prop := ∃ a o its n t, v = .ref a ∧ h.get? a = some o ∧ o.cls = .type "tuple" ∧ o.data = .seq its n ∧ its[0]? = some (.str x t)
theorem HTup.keeps {h h' : Heap} {v : Value} {x : Str} (k : ∀ b o, h.get? b = some o → o.cls = .type "tuple" → h'.get? b = some o) (t : HTup h v x) : HTup h' v x := by
  obtain ⟨a, o, its, n, t, e, h1, h2, h3, h4⟩ := t
  exact ⟨a, o, its, n, t, e, k a o h1 h2, h2, h3, h4⟩
/-! ## .. by data -/
inductive F2 {α β : Type} (R : α → β → Prop) : List α → List β → Prop
  | nil : F2 R [] []
  | cons {a : α} {b : β} {l : List α} {m : List β} : R a b → F2 R l m → F2 R (a :: l) (b :: m)
theorem F2.get {α β : Type} {R : α → β → Prop} : ∀ {l : List α} {m : List β} {i : Nat} {a : α}, F2 R l m → l[i]? = some a → ∃ b, m[i]? = some b ∧ R a b
  | _, _, i, a, .nil, e => by simp at e
  | _, _, 0, a, .cons (b := b) r t, e => by simp at e; subst e; exact ⟨b, rfl, r⟩
  | _, _, i + 1, a, .cons r t, e => by
    obtain ⟨b, e1, q⟩ := F2.get (i := i) t (by simpa using e)
    exact ⟨b, by simpa using e1, q⟩
theorem F2.mem {α β : Type} {R : α → β → Prop} {l : List α} {m : List β} (h : F2 R l m) {a : α} (ha : a ∈ l) : ∃ b ∈ m, R a b := by
  obtain ⟨i, hi⟩ := List.getElem?_of_mem ha
  obtain ⟨b, hb, r⟩ := h.get hi
  exact ⟨b, List.mem_of_getElem? hb, r⟩
def Tri (K : PySem.W.Frag) (G : Hp) (A : List Addr) (u : Value) (p : V × D) : Prop := RelV p.1 u ∧ Dn K G A p.1 p.2
end FL
end
section
set_option Elab.async false
set_option linter.all false
set_option maxRecDepth 100000
set_option autoImplicit false
set_option maxHeartbeats 2000000
namespace FL
open PySem PySem.Spec PyProof.Rows L2
/-! ## comprehensions of two clauses -/
section
variable {X : Cx} {EE : XK}
def compD2 (b : FGx) (t : FTx) (fi1 : FAx) (vs1 : List Nat) (b1 : FGx) (t1 : FTx) (e : FEx) (r0 : Env) : List D → List D → M (List D)
  | [], acc => ret acc
  | d :: ds, acc => bnd (noEx (b d r0)) fun r1 => bnd (noEx (t r1)) fun k => if k = true then bnd (noEx (fi1 r1)) fun es => bnd (noEx (compD b1 t1 e (wipeE r1 vs1) es acc)) fun acc' => compD2 b t fi1 vs1 b1 t1 e r0 ds acc' else compD2 b t fi1 vs1 b1 t1 e r0 ds acc
def eCompL2 (vs : List Nat) (fi : FAx) (b : FGx) (t : FTx) (fi1 : FAx) (vs1 : List Nat) (b1 : FGx) (t1 : FTx) (e : FEx) : FAx := fun r => bnd (fi r) fun ds => compD2 b t fi1 vs1 b1 t1 e (wipeE r vs) ds []
def eComp2 (vs : List Nat) (fi : FAx) (b : FGx) (t : FTx) (fi1 : FAx) (vs1 : List Nat) (b1 : FGx) (t1 : FTx) (e : FEx) : FEx := fun r => bnd (eCompL2 vs fi b t fi1 vs1 b1 t1 e r) fun xs => ret (.lst xs)
end
end FL
end
section
set_option Elab.async false
set_option linter.all false
set_option maxRecDepth 100000
set_option autoImplicit false
set_option maxHeartbeats 2000000
namespace FL
open PySem PySem.Spec PyProof.Rows L2
/-! ## what the module's names stand for -/
mutual
def dIs (K : PySem.W.Frag) : D → Value → Bool
  | .non, .none => true
  | .bl b, .bool c => b == c
  | .int i, .int j _ => decide (i = j)
  | .str x, .str y _ => decide (x = y) && PyData.strOk x
  | .tup ds, .ref a => (match K.lookup a with
    | some ⟨.type c, none, .seq its _, _⟩ => decide (c = "tuple") && (decide (its.size ≤ sizeLine) && dIss K ds its.toList)
    | _ => false)
  | .lst ds, .ref a => (match K.lookup a with
    | some ⟨.type c, none, .seq its n, sl⟩ => decide (c = "list") && (sl.isEmpty && (decide (its.size ≤ sizeLine) && dIss K ds its.toList))
    | _ => false)
  | _, _ => false
def dIss (K : PySem.W.Frag) : List D → List Value → Bool
  | [], [] => true
  | d :: ds, u :: us => dIs K d u && dIss K ds us
  | _, _ => false
end
theorem band {a b : Bool} (h : (a && b) = true) : a = true ∧ b = true := Bool.and_eq_true_iff.mp h
mutual
theorem dIs_ok (K : PySem.W.Frag) : ∀ (d : D) (u : Value), dIs K d u = true → ∃ v, RelV v u ∧ ∀ G A, Dn K G A v d
  | .non, u, h => by
    cases u <;> simp [dIs] at h
    exact ⟨.non, rfl, fun _ _ => .non⟩
  | .bl b, u, h => by
    cases u <;> simp [dIs] at h
    subst h
    exact ⟨.bl b, rfl, fun _ _ => .bl b⟩
  | .int i, u, h => by
    cases u <;> simp [dIs] at h
    subst h
    exact ⟨.int i, ⟨_, rfl⟩, fun _ _ => .int i⟩
  | .str x, u, h => by
    cases u <;> simp [dIs] at h
    obtain ⟨rfl, h2⟩ := h
    exact ⟨.str x, ⟨_, rfl⟩, fun _ _ => .str x h2⟩
  | .tup ds, u, h => by
    cases u with
    | ref a =>
      simp only [dIs] at h
      split at h
      · rename_i c its n sl e
        obtain ⟨h1, h2⟩ := band h
        obtain ⟨h2, h3⟩ := band h2
        have hc := of_decide_eq_true h1
        subst hc
        obtain ⟨vs, r, t⟩ := dIss_ok K ds _ h3
        exact ⟨.ref a, rfl, fun G A => .tup (.inr ⟨_, its, n, e, rfl, rfl, rfl, of_decide_eq_true h2, r⟩) (t G A)⟩
      · cases h
    | _ => simp [dIs] at h
  | .lst ds, u, h => by
    cases u with
    | ref a =>
      simp only [dIs] at h
      split at h
      · rename_i c its n sl e
        obtain ⟨h1, h2⟩ := band h
        obtain ⟨h2, h4⟩ := band h2
        obtain ⟨h3, h4⟩ := band h4
        have hc := of_decide_eq_true h1
        subst hc
        have hs : sl = #[] := Array.isEmpty_iff.mp h2
        subst hs
        obtain ⟨vs, r, t⟩ := dIss_ok K ds _ h4
        exact ⟨.ref a, rfl, fun G A => .lst (.inr ⟨its, n, e, of_decide_eq_true h3, r⟩) (t G A)⟩
      · cases h
    | _ => simp [dIs] at h
  | .dct _, u, h => by cases u <;> simp [dIs] at h
  | .ref _, u, h => by cases u <;> simp [dIs] at h
  | .fn _ _, u, h => by cases u <;> simp [dIs] at h
  | .obj _ _ _, u, h => by cases u <;> simp [dIs] at h
theorem dIss_ok (K : PySem.W.Frag) : ∀ (ds : List D) (us : List Value), dIss K ds us = true → ∃ vs, Vals vs us ∧ ∀ G A, DnAll K G A vs ds
  | [], [], _ => ⟨[], .nil, fun _ _ => .nil⟩
  | [], _ :: _, h => by simp [dIss] at h
  | _ :: _, [], h => by simp [dIss] at h
  | d :: ds, u :: us, h => by
    obtain ⟨h1, h2⟩ := band h
    obtain ⟨v, r, t⟩ := dIs_ok K d u h1
    obtain ⟨vs, rs, ts⟩ := dIss_ok K ds us h2
    exact ⟨v :: vs, .cons r rs, fun G A => .cons (t G A) (ts G A)⟩
end
/-- the module's name x stands for the datum d -/
def conIs (K : PySem.W.Frag) (c : Str × D) : Bool := match PySem.W.nsIn K mainGlobals c.1 with
  | some (some u) => dIs K c.2 u
  | _ => false
def Con (K : PySem.W.Frag) (mg : Str → Option Value) (x : Str) (d : D) : Prop := ∃ u v, mg x = some u ∧ RelV v u ∧ ∀ G A, Dn K G A v d
theorem con_ok {K : PySem.W.Frag} {h : Heap} {mg : Str → Option Value} {x : Str} {d : D} (X : K.In h) (G : h.Ns mainGlobals mg) (c : conIs K (x, d) = true) : Con K mg x d := by
  unfold conIs at c
  split at c
  · rename_i u e
    obtain ⟨v, r, t⟩ := dIs_ok K d u c
    exact ⟨u, v, PySem.W.mg_of X G e, r, t⟩
  · cases c
/-! ## the law -/
theorem ints_dn {K : PySem.W.Frag} {G : Hp} {A : List Addr} : ∀ ns : List Int, DnAll K G A (ns.map V.int) (ns.map D.int)
  | [] => .nil
  | n :: ns => .cons (.int n) (ints_dn ns)
section
variable {P : Program} {w : World} {K : PySem.W.Frag} {mg mb : Str → Option Value} {k : Nat} {fa a : Addr} {fd : FuncData} {x : Str} {f : List D → M D} {s₁ : Shared} {vs : List Value} {ns : List Int}
/-- what a call of the law must come to -/
def GoodEnd (s₁ : Shared) (r : Result) (s' : Shared) : Prop := r = .ok (.ret (.bool true)) ∧ OldK s₁.heap s'.heap ∧ s'.os = s₁.os ∧ AllBare s'.gens
theorem law_at (H : Hp) (hO : Only H) (hok : HOk P w H s₁.heap) (hdn : LAt K H a (ns.map V.int)) (hA : ∀ b, H b ≠ none → b = a) (hK : H a ≠ none → K.lookup a = none)
    (KX : K.In s₁.heap) (hns : s₁.heap.Ns mainGlobals mg) (hb : s₁.heap.Ns builtinsNs mb) (hbb : ∀ x : Str, x ≠ "__name__" → mb x = bootBuiltins x) (hlim : s₁.heap.NoLimit) (hg : s₁.gens = #[])
    (ha : s₁.heap.get? a = some { cls := .type "list", data := .seq vs.toArray }) (hr : Room k callerA)
    (hF : ∀ base : Heap, K.In base → base.Ns mainGlobals mg → FnD P w K mg base C8.CX0 k fa fd [x] f) (hbind : ∀ (s : Shared) (u : Value), BindsTo s fd ⟨[u], []⟩ [(x, u)])
    (hT : ∃ S', f [.lst (ns.map D.int)] [] = .ok (.bl true) S') : codeAny (model P w) callerA (.call (.ref fa) ⟨[.ref a], []⟩) (GoodEnd s₁) s₁ := by
  have keep : ∀ {b : Addr} {o : Obj}, s₁.heap.get? b = some o → H b = none → (hidT s₁.heap H).get? b = some o := fun q z => hidT_get q z
  have isA : ∀ {b : Addr} {u : HO}, H b = some u → b = a := fun q => hA _ (by rw [q]; exact fun z => nomatch z)
  have hin : K.In (hidT s₁.heap H) := fun b o q => keep (KX b o q) (by
    cases z : H b with
    | none => rfl
    | some u =>
      have eb := isA z
      rw [eb] at q z
      rw [hK (by rw [z]; exact fun y => nomatch y)] at q
      cases q)
  have ns' : ∀ {b : Addr} {m : Str → Option Value}, s₁.heap.Ns b m → (hidT s₁.heap H).Ns b m := by
    rintro b m ⟨o, es, ep, q, dd, rest⟩
    refine ⟨o, es, ep, keep q ?_, dd, rest⟩
    cases z : H b with
    | none => rfl
    | some u =>
      have eb := isA z
      rw [eb, ha] at q
      cases q
      cases dd
  have md : Mod K mg (hidT s₁.heap H) := by
    obtain ⟨mc, l1, l2⟩ := hlim
    exact ⟨hin, ns' hns, ⟨mb, ns' hb, hbb⟩, ⟨mc, ns' l1, l2⟩⟩
  have env : Env0 P w K mg (hidT s₁.heap H) callerA [] s₁ H := ⟨rfl, md, fun b o q => of_hidT q, Nat.le_of_eq (hidT_size _ _), trivial, fun b z => absurd (show b ∈ ([] : List Addr) from z) (by simp), hok, .of_eq hg⟩
  obtain ⟨S', hS⟩ := hT
  have go := hF _ hin (ns' hns) callerA [] s₁ H ⟨[.ref a], []⟩ [.ref a] [.ref a] (fun v _ => v = .bl true) (fun _ _ _ => False) H [] [] [.lst (ns.map D.int)] hr rfl env (hbind s₁ (.ref a)) (.cons rfl .nil) rfl
    ⟨Same.refl _, rfl, .nil, (fun n b z => by simp at z), (fun b z => by cases z), (fun n b o z => by simp at z), (fun b ps z => by rcases hO b with q | ⟨ob, xs, q⟩ <;> rw [q] at z <;> cases z)⟩ (.cons (.lst hdn (ints_dn ns)) .nil) (by rw [hS]; exact fun G' A' H' v _ _ n => by cases n; rfl)
  refine codeAny_mono go fun r s' q => ?_
  cases r with
  | error e => exact False.elim q
  | ok fl =>
    cases fl with
    | next => exact False.elim q
    | brk => exact False.elim q
    | cont => exact False.elim q
    | ret u =>
      obtain ⟨v, H', os, bare, un, hok', rv, qv⟩ := q
      cases (show v = .bl true from qv)
      cases (show u = Value.bool true from rv)
      refine ⟨rfl, OldK.of_keep fun b o q => ?_, os, bare⟩
      cases z : H b with
      | none => exact un.keep b o q z (fun y => absurd (show b ∈ ([] : List Addr) from y) (by simp)) (by simp)
      | some u =>
        obtain ⟨ob, xs, z2⟩ := (hO b).resolve_left (by rw [z]; exact fun y => nomatch y)
        obtain ⟨g1, _⟩ := hok b _ z2
        obtain ⟨g2, _⟩ := hok' b _ (un.frzs b ob _ z2)
        rw [q] at g1
        cases g1
        exact g2
theorem law_end (KX : K.In s₁.heap) (hns : s₁.heap.Ns mainGlobals mg) (hb : s₁.heap.Ns builtinsNs mb) (hbb : ∀ x : Str, x ≠ "__name__" → mb x = bootBuiltins x) (hlim : s₁.heap.NoLimit) (hg : s₁.gens = #[])
    (ha : s₁.heap.get? a = some { cls := .type "list", data := .seq vs.toArray }) (hi : IntsAre vs ns) (hl : ns.length ≤ sizeLine) (hr : Room k callerA)
    (hF : ∀ base : Heap, K.In base → base.Ns mainGlobals mg → FnD P w K mg base C8.CX0 k fa fd [x] f) (hbind : ∀ (s : Shared) (u : Value), BindsTo s fd ⟨[u], []⟩ [(x, u)])
    (hT : ∃ S', f [.lst (ns.map D.int)] [] = .ok (.bl true) S') : codeAny (model P w) callerA (.call (.ref fa) ⟨[.ref a], []⟩) (GoodEnd s₁) s₁ := by
  have rv := vals_ints hi
  have hz : vs.length ≤ sizeLine := by rw [hi.length]; exact hl
  cases hk : K.lookup a with
  | some o =>
    have q := KX a o hk
    rw [ha] at q
    cases q
    exact law_at (fun _ => none) (fun _ => .inl rfl) (fun b u z => nomatch (show (none : Option HO) = some u from z)) (.inr ⟨vs.toArray, _, hk, by simpa using hz, by simpa using rv⟩) (fun b z => absurd rfl z) (fun z => absurd rfl z) KX hns hb hbb hlim hg ha hr hF hbind hT
  | none =>
    have one : ∀ {b : Addr} {u : HO}, (if b = a then some (HO.frz { cls := .type "list", data := .seq vs.toArray } (.lst (ns.map V.int))) else none) = some u → b = a ∧ u = .frz { cls := .type "list", data := .seq vs.toArray } (.lst (ns.map V.int)) := fun {b u} z => by
      split at z
      · rename_i hb'; cases z; exact ⟨hb', rfl⟩
      · cases z
    refine law_at (fun b => if b = a then some (.frz { cls := .type "list", data := .seq vs.toArray } (.lst (ns.map V.int))) else none) (fun b => ?_) (fun b u z => ?_) (.inl (.inr ⟨_, if_pos rfl⟩)) (fun b z => ?_) (fun _ => hk) KX hns hb hbb hlim hg ha hr hF hbind hT
    · cases z : (if b = a then some (HO.frz { cls := .type "list", data := .seq vs.toArray } (.lst (ns.map V.int))) else none) with
      | none => exact .inl z
      | some u => rw [(one z).2] at z; exact .inr ⟨_, _, z⟩
    · obtain ⟨e1, e2⟩ := one z
      subst e1 e2
      exact ⟨ha, by rw [List.length_map]; exact hl, vs, _, rv, ha⟩
    · by_cases e : b = a
      · exact e
      · exact absurd (if_neg e) z
end
/-- a law over a head by facts -/
theorem walk_D {l : PySem.W.OpenLaw} {n k : Nat} {q : Program} {loose : List Str} {XP : (Str → Option Value) → Heap → Prop} {YP : World → Heap → Prop} {d : DefRec} {x : Str}
    (hn : l.most = some n) (hn2 : n ≤ sizeLine) (hdf : d.params.defaults = []) (hr : Room k callerA)
    (F : ∀ (w : World) (mg : Str → Option Value) (fa : Addr) (h : Heap), YP w h → h.Ns mainGlobals mg → mg d.name = some (.ref fa) →
      ∃ (K : PySem.W.Frag) (fd : FuncData) (f : List D → M D), K.In h ∧ (∀ (s : Shared) (u : Value), BindsTo s fd ⟨[u], []⟩ [(x, u)]) ∧ (∀ ns : List Int, ns.length ≤ n → ∃ S', f [.lst (ns.map D.int)] [] = .ok (.bl true) S') ∧
        ∀ base : Heap, K.In base → base.Ns mainGlobals mg → FnD l.prog w K mg base C8.CX0 k fa fd [x] f) :
    PySem.W.WalkO q loose XP YP l.row.toRowW d [] (fun f vs => PySem.call f vs) := by
  refine Att.attach_call hn hdf fun w s₀ s₁ mg mb fa o pm cd doc a vs ns G Y ho hd hcd hmg hobj hints hlen hg => ?_
  obtain ⟨K, fd, f, KX, hb, hT, hF⟩ := F w mg fa _ Y G.T.g hmg
  exact law_end KX G.T.g G.T.b G.T.builtins G.T.nolimit hg hobj hints (Nat.le_trans hlen hn2) hr hF hb (hT ns hlen)
end FL
end
section
set_option Elab.async false
set_option linter.all false
set_option maxRecDepth 100000
set_option autoImplicit false
set_option maxHeartbeats 2000000
namespace FL
open PySem PySem.Spec PyProof.Rows L2
section
variable {X : Cx} {EE : XK}
/-- a, b, c = x, y, z -/
def sPar3 (i j l : Nat) (f : FAx) : FSx := fun r => bnd (f r) fun ds => match ds with
  | [d, e, g] => ret (.nx (((r.set i (some d)).set j (some e)).set l (some g)))
  | _ => fun _ => .no
theorem fs_par3 {i j l : Nat} {x y z : Str} {a b c : Expr} {fa : FAx} {px py pz pt pos : Pos} {kt k2 pt2} (hc : X.calm = true) (hN : X.N.Nodup) (hi : X.N[i]? = some x) (hj : X.N[j]? = some y) (hl : X.N[l]? = some z) (hij : i ≠ j) (hil : i ≠ l) (hjl : j ≠ l)
    (hx : X.env.scope.names.lookup x = some .local) (hy : X.env.scope.names.lookup y = some .local) (hz : X.env.scope.names.lookup z = some .local) (ha : FA X EE [a, b, c] fa)
    (hw : swappedStores [.Tuple [.Name x px, .Name y py, .Name z pz] kt pt] (.Tuple [a, b, c] k2 pt2) X.env = pure (some [x, y, z]))
    (hs : swapsWithSole [.Tuple [.Name x px, .Name y py, .Name z pz] kt pt] (.Tuple [a, b, c] k2 pt2) pos.line X.env = pure false := by rfl) :
    FS X EE (.Assign [.Tuple [.Name x px, .Name y py, .Name z pz] kt pt] (.Tuple [a, b, c] k2 pt2) pos) (sPar3 i j l fa) := by
  refine ps_weak (ps_par3 hc hN hi hj hl hij hil hjl hx hy hz ha hw hs) fun T s H ⟨r, G, A, S, hr, hR, q⟩ => ?_
  refine ra_bnd hr hR q (fun _ _ z => z) fun G1 A1 H1 vs ds S1 a1 r1 R1 n1 q1 => ?_
  match ds, n1, q1 with
  | [d, e, g], nn, q1 =>
    cases nn with
    | cons m1 mm =>
      cases mm with
      | cons m2 mm =>
        cases mm with
        | cons m3 mm =>
          cases mm
          exact ⟨_, _, _, rfl, q1 G1 A1 H1 _ a1 R1 (((r1.set m1).set m2).set m3)⟩
  | [], _, q1 => exact q1.elim
  | [_], _, q1 => exact q1.elim
  | [_, _], _, q1 => exact q1.elim
  | _ :: _ :: _ :: _ :: _, _, q1 => exact q1.elim
/-- xs + ys, to be changed -/
def eCatM (fa fb : FEx) : FEx := fun r => bnd (fa r) fun x => bnd (fb r) fun y => fun S => match vw S x, vw S y with
  | .lst xs, .lst ys => if xs.length + ys.length ≤ 1000000 then .ok (.ref S.length) (S ++ [.lst (xs ++ ys)]) else .no
  | _, _ => .no
end
theorem room_u {k : Nat} {A : Around} (h : Room k A) : A.units + 66 < cLine := by have := h.un; omega
theorem room_65 {k : Nat} {A : Around} (h : Room k A) : A.units + 65 < cLine := by have := h.un; omega
theorem room_64 {k : Nat} {A : Around} (h : Room k A) : A.units + 64 < cLine := by have := h.un; omega
theorem room_1 {k : Nat} {A : Around} (h : Room k A) : A.units + 1 < cLine := by have := h.un; omega
/-- what the top has written -/
structure Top (fr : List Str) (cs : List (Str × D)) (df : List He.DefD) (K : PySem.W.Frag) (mg : Str → Option Value) : Prop where
  fr : ∀ x ∈ fr, mg x = none
  con : ∀ c ∈ cs, Con K mg c.1 c.2
  df : ∀ d ∈ df, ∃ fd, FunD K d.name d.qual d.params d.body d.scope (d.dvs K) (d.kws K) (He.fAd K d.at_) fd ∧ mg d.name = some (.ref (He.fAd K d.at_))
end FL
end
section
set_option Elab.async false
set_option linter.all false
set_option maxRecDepth 100000
set_option autoImplicit false
set_option maxHeartbeats 2000000
namespace FL
open PySem PySem.Spec PyProof.Rows L2
/-! ## for over a list that may change, but does not -/
open Classical in
noncomputable def loopM (n : Nat) (es : List D) (b : FGx) (body : FSx) : List D → Env → M Fl
  | [], r => fun S => if S[n]? = some (.lst es) then .ok (.nx r) S else .no
  | d :: ds, r => fun S => if S[n]? = some (.lst es) then bnd (b d r) (fun r1 => bnd (body r1) fun fl => match fl with
    | .nx r' => loopM n es b body ds r'
    | .ct r' => loopM n es b body ds r'
    | .bk r' => ret (.nx r')
    | .rt v => ret (.rt v)) S else .no
noncomputable def forR (n : Nat) (b : FGx) (body : FSx) (r : Env) : Option Ob → Sto → R Fl
  | some (.lst es), S => loopM n es b body es r S
  | _, _ => .no
noncomputable def kForM (b : FGx) (body : FSx) (r : Env) : D → Sto → R Fl
  | .ref n, S => forR n b body r S[n]? S
  | .lst es, S => loopD b body es r S
  | .tup es, S => loopD b body es r S
  | _, _ => .no
noncomputable def sForM (f : FEx) (b : FGx) (body : FSx) : FSx := fun r => bnd (f r) fun d => kForM b body r d
section
variable {X : Cx} {EE : XK}
/-! ## xs[lo:hi:st] of a list -/
def pick3 {α : Type} (xs : List α) (lo hi st : Option Int) : List α := (sliceRange (sliceBounds lo hi st xs.length).1 (sliceBounds lo hi st xs.length).2.1 (sliceBounds lo hi st xs.length).2.2).filterMap (xs[·]?)
def sl3D (d : D) (lo hi st : Option Int) : Option D := on1 D.lst? d fun xs => if st = some 0 then none else some (.lst (pick3 xs lo hi st))
def eSl3 (f : FEx) (l u t : Env → M (Option Int)) : FEx := fun r => bnd (f r) fun x => bnd (l r) fun lo => bnd (u r) fun hi => bnd (t r) fun st => fun S => opt (sl3D (vw S x) lo hi st) S
end
end FL
end
section
set_option Elab.async false
set_option linter.all false
set_option maxRecDepth 100000
set_option autoImplicit false
set_option maxHeartbeats 2000000
namespace FL
open PySem PySem.Spec PyProof.Rows L2
section
variable {X : Cx} {EE : XK}
/-! ## list.count of data -/
/-! ## list(range(a, b)) -/
def listRg2 (d e : D) : Option D := on2 D.int? D.int? d e fun i j => guard' (smallR i && smallR j) (.lst ((List.range (j - i).toNat).map fun k => .int (i + (k : Nat))))
def eListRg (fa fb : FEx) : FEx := fun r => bnd (fa r) fun x => bnd (fb r) fun y => fun S => opt (listRg2 x y) S
end
end FL
end
section
set_option Elab.async false
set_option linter.all false
set_option maxRecDepth 100000
set_option autoImplicit false
set_option maxHeartbeats 2000000
namespace FL
open PySem PySem.Spec PyProof.Rows L2
/-! ## a dict of the store that is locked while a comprehension walks it -/
section
variable {X : Cx} {EE : XK}
theorem DnKV.getD {K : PySem.W.Frag} {G : Hp} {A : List Addr} : ∀ {vs : List (Key × V)} {ds : List (Key × D)} {i : Nat} {k : Key} {d : D}, DnKV K G A vs ds → ds[i]? = some (k, d) → ∃ v, vs[i]? = some (k, v)
  | _, _, i, _, _, .nil, e => by simp at e
  | _, _, 0, _, _, .cons (v := v) a b, e => by
    rw [List.getElem?_cons_zero] at e
    cases e
    exact ⟨v, rfl⟩
  | _, _, i + 1, k, d, .cons a b, e => by
    obtain ⟨v, e1⟩ := DnKV.getD (i := i) b (by simpa using e)
    exact ⟨v, by simpa using e1⟩
theorem DnKV.len {K : PySem.W.Frag} {G : Hp} {A : List Addr} {vs : List (Key × V)} {ds : List (Key × D)} (h : DnKV K G A vs ds) : vs.length = ds.length := by
  induction vs generalizing ds with
  | nil => cases h; rfl
  | cons v vs ih => cases h with | cons a b => simp [ih b]
variable {elt tg : Expr} {ifs : List Expr} {scope : Scope} {own : List (Str × Nat)} {pos : Pos} {b : FGx} {t : FTx} {e : FEx}
/-! ## {k: v, ..} -/
def pairsD : List (FEx × FEx) → FL.Env → M (List (Key × D))
  | [], _ => ret []
  | p :: ps, r => bnd (p.1 r) fun k => bnd (p.2 r) fun v => bnd (pairsD ps r) fun kvs => bnd (opt k.key?) fun k' => ret ((k', v) :: kvs)
def eDisp (ps : List (FEx × FEx)) : FEx := fun r => bnd (pairsD ps r) fun kvs => if kvs.length ≤ 15 then fun S => .ok (.ref S.length) (S ++ [.dct (mergeD [] kvs)]) else fun _ => .no
abbrev FPs (X : Cx) (EE : XK) (pos : Pos) (keys : List (Option Expr)) (values : List Expr) (ps : List (FEx × FEx)) : Prop := PPs X pos keys values (ps.map fun p => (RE X EE p.1, RE X EE p.2))
theorem fps_nil {pos : Pos} : FPs X EE pos [] [] [] := pps_nil
theorem fps_cons {pos : Pos} {k v : Expr} {ks : List (Option Expr)} {vs : List Expr} {fk fv : FEx} {ps : List (FEx × FEx)} (hk : FE X EE k fk) (hv : FE X EE v fv) (hr : FPs X EE pos ks vs ps) : FPs X EE pos (some k :: ks) (v :: vs) ((fk, fv) :: ps) := pps_cons hk hv hr
theorem to_pairs {s : L2.St} {r : FL.Env} {EP' : Exn → Sto → Prop} {G0 H0 : Hp} {A0 : List Addr} (hE : ∀ x S', EP' x S' → QE X.K X.mg EE G0 A0 H0 x S') : ∀ (ps : List (FEx × FEx)) (H : Hp) (Q : List (V × V) → Hp → Prop) (G : Hp) (A : List Addr) (S : Sto) (P : List (Key × D) → Sto → Prop), Ex A0 G0 H0 A G H → EnvR X.K G A s r → Rel X.K A S G H → (pairsD ps r S).post P EP' →
    (∀ G' A' H' S' kds (kvs : List (Key × V)), Ex A G H A' G' H' → Rel X.K A' S' G' H' → DnKV X.K G' A' kvs kds → P kds S' → Q (kvs.map fun kv => (kV kv.1, kv.2)) H') → tPairs (ps.map fun p => (RE X EE p.1, RE X EE p.2)) s H Q
  | [], H, Q, G, A, S, P, e0, hr, hR, q, w => w G A H S [] [] Ex.refl hR .nil q
  | p :: ps, H, Q, G, A, S, P, e0, hr, hR, q, w => by
    refine re_bnd hr hR q (fun x S' z => (hE x S' z).mono e0) fun G1 A1 H1 x d S1 a1 r1 R1 n1 q1 => ?_
    refine re_bnd r1 R1 q1 (fun x S' z => (hE x S' z).mono (e0.trans a1)) fun G2 A2 H2 y e S2 a2 r2 R2 n2 q2 => ?_
    rw [post_bnd] at q2
    refine to_pairs hE ps H2 _ G2 A2 S2 _ (e0.trans (a1.trans a2)) r2 R2 q2 fun G3 A3 H3 S3 kds kvs a3 R3 n3 q3 => ?_
    rw [post_bnd, post_opt] at q3
    obtain ⟨k, hk, q3⟩ := q3
    have ek : x = kV k := dv_key (.of n1 : Dv X.K G1 A1 H1 x d) hk
    subst ek
    exact w G3 A3 H3 S3 ((k, e) :: kds) ((k, y) :: kvs) ((a1.trans a2).trans a3) R3 (.cons (n2.mono a3.g a3.p) n3) q3
theorem fe_disp {pos : Pos} {keys : List (Option Expr)} {values : List Expr} {ps : List (FEx × FEx)} (h : FPs X EE pos keys values ps) (hall : keys.all (·.isSome) = true := by rfl) (hl : keys.length = values.length := by rfl) (h0 : keys ≠ [] := by exact List.cons_ne_nil _ _) (h15 : keys.length ≤ 15 := by decide) :
    FE X EE (.Dict keys values pos) (eDisp ps) := by
  refine pe_weak (pe_disp h hall hl h0 h15) fun s H Q ⟨r, G, A, S, hr, hR, q⟩ p hp => ?_
  unfold eDisp at q
  rw [post_bnd] at q
  have R1 : Rel X.K A S G (upd H p (.dK [])) := hR.beside (hR.free hp) (hR.notin hp) _
  have e1 : Ex A G H A G (upd H p (.dK [])) := Ex.refl.beside hp _
  refine to_pairs (G0 := G) (A0 := A) (H0 := H) (fun _ _ z => z) ps (upd H p (.dK [])) _ G A S _ e1 hr R1 q fun G2 A2 H2 S2 kds kvs a2 R2 n2 q2 => ?_
  obtain ⟨np, Hp2⟩ := a2.f p _ (hR.notin hp) upd_same
  have gp := a2.k p _ upd_same (hR.free hp)
  split at q2
  · rename_i hl15
    refine ⟨Hp2, kvs, rfl, by rw [n2.len]; exact hl15, ?_⟩
    have R3 : Rel X.K (A2 ++ [p]) (S2 ++ [.dct (mergeD [] kds)]) G2 (upd H2 p (.dK (mergeK [] kvs))) :=
      (R2.beside gp np _).own gp np (by rw [upd_same]; simp) ⟨_, upd_same, DnKV.mono (Same.refl _) (Pre.app _ _) _ _ (DnKV.merge n2 .nil)⟩
    refine q2 G2 (A2 ++ [p]) _ _ (((e1.trans a2).beside hp _).own hp) R3 (.ref ?_)
    rw [← R2.len]
    simp
  · exact q2.elim
end
end FL
end
section
set_option Elab.async false
set_option linter.all false
set_option maxRecDepth 100000
set_option autoImplicit false
set_option maxHeartbeats 4000000
namespace FL
open PySem PySem.Spec PyProof.Rows L2
/-! ## set(l) of a list: the loop that fills it is told by its user -/
/-- the new set, empty -/
abbrev emS (w : World) : Obj := { cls := .type "set", dict := none, data := .set #[] 0 (.fresh 0 0 (!w.params.followText "set-order")) }
section
variable {P : Program} {w : World} {A : Around} {E : Value → Shared → Prop} {s : Shared}
set_option maxHeartbeats 6400000 in
theorem set_of_list {l : Addr} {items : Array Value} {Z : Addr → Heap → Prop} {Q : Value → Shared → Prop} (hl : s.heap.IsList l items) (hh : A.handled = none)
    (loop : ∀ (B : Around) (I : Addr) (s1 : Shared) (R : Result → Shared → Prop), B.handled = none → B.units ≤ A.units + 8 → (∀ b o, s.heap.get? b = some o → s1.heap.get? b = some o) → s1.heap.get? s.heap.objs.size = some (emS w) → s1.heap.IsListIter I l 0 → s1.heap.IsList l items →
      s.heap.objs.size < I → l ≠ I → l ≠ s.heap.objs.size → (∀ s2, Moved [s.heap.objs.size, I] (fun a b => b = a) s1 s2 → Z s.heap.objs.size s2.heap → R (.ok (.ret .none)) s2) → codeAny (model P w) B (.builtin "set.update.loop" ⟨[.ref s.heap.objs.size, .ref I], []⟩) R s1)
    (h : ∀ (h' : Heap) (tk : Nat), Z s.heap.objs.size h' → (∀ b o, s.heap.get? b = some o → h'.get? b = some o) → Q (.ref s.heap.objs.size) { s with heap := h', toks := tk }) :
    wpAny (model P w) A (call (.type "set") [.ref l]) Q E s := by
  obtain ⟨c, tl, hmro⟩ := F.called_set.mro
  have k1 := F.called_set.made
  have k2 := F.called_set.sub
  have k3 := F.called_set.notType
  have k4 := F.called_set.canCreate
  have k5 := F.typeCall_set_1 (.ref l)
  refine wpAny_call (codeAny_of_tree ?_)
  show wpAny _ _ (callAny (.type "set") _) _ _ _
  refine wpAny_pure ⟨Code.quiet_builtin _ (by decide +kernel), codeAny_builtin F.entry_type_call ?_⟩
  rw [Around.under_plain (weight_type_call_type "set" [.ref l] []) rfl]
  repeat (any_goals (first | assumption | wp_step))
  refine codeAny_mono (code_set_led1 (.ref l) (E := E) (Q₁ := fun v z => v = .ref s.heap.objs.size ∧ z = { s with heap := s.heap.push (emS w) }) ⟨rfl, rfl⟩) fun r z hz => ?_
  rcases r with er | (v | _ | _ | _) <;> first | exact hz | exact hz.elim | skip
  obtain ⟨rfl, rfl⟩ := hz
  have at0 : (s.heap.push (emS w)).get? s.heap.objs.size = some (emS w) := Heap.get?_push_size _ rfl
  have ty : Shared.TypeIs { s with heap := s.heap.push (emS w) } (.ref s.heap.objs.size) "set" := ⟨_, at0, rfl⟩
  have k6 := F.called_set.init.lookup
  have k7 := F.called_set.init.bind (.ref s.heap.objs.size)
  repeat (any_goals (first | assumption | wp_step))
  refine codeAny_mono (codeAny_call_builtin (R := wants (fun v z => v = .none ∧ ∃ h' tk, z = { s with heap := h', toks := tk } ∧ Z s.heap.objs.size h' ∧ ∀ b o, s.heap.get? b = some o → h'.get? b = some o) E) F.called_set.init.plain F.entry_set_init (check_set_init_1 ty ?_)) fun r2 z2 hz2 => ?_
  · obtain ⟨⟨oc, od, dt, os⟩, e1, e2, nl, e3⟩ := hl
    simp only at e2 e3
    subst e2 e3
    have e4 : (s.heap.push (emS w)).get? l = some { cls := .type "list", dict := od, data := .seq items nl, slots := os } := Heap.get?_push_of_some _ e1
    have l1 : (s.heap.push (emS w)).IsList l items := ⟨_, e4, rfl, nl, rfl⟩
    have q1 := F.sub_list_set
    have q2 := F.sub_list_frozenset
    have q3 : (Value.type "list" == Value.type "dict") = false := by decide
    unfold Builtin.«set.__init__» noKeywords Builtin.Frozenset.updateFrom
    generalize hPI : pyIter = PI
    wp_walk
    subst hPI
    refine wpAny_pyIter_list l1 ?_
    refine wpAny_bind (wpAny_runValue ?_)
    have lS : l < s.heap.objs.size := Heap.lt_size e1
    have sz : (s.heap.push (emS w)).objs.size = s.heap.objs.size + 1 := Heap.size_push ..
    refine loop _ (s.heap.push (emS w)).objs.size _ _ (by simp [hh]) (by simp only [Around.in1_units]; omega) (fun b o q => Heap.get?_push_of_some _ (Heap.get?_push_of_some _ q)) (Heap.get?_push_of_some _ at0) ⟨_, Heap.get?_push_size _ rfl, rfl, rfl⟩ (l1.push _) (by rw [sz]; exact Nat.lt_succ_self _) (by rw [sz]; exact Nat.ne_of_lt (Nat.lt_succ_of_lt lS)) (Nat.ne_of_lt lS) fun s2 mv hZ => ?_
    obtain ⟨h2, g2, d2, t2, o2⟩ := s2
    have a1 : g2 = s.gens := mv.gens
    have a2 : d2 = s.drawn := mv.drawn
    have a3 : o2 = s.os := mv.os
    subst a1 a2 a3
    show wpAny _ _ _ _ _ _
    refine wpAny_pure ?_
    show wpAny _ _ (PySem.ret Value.none) _ _ _
    refine wpAny_pure ⟨rfl, h2, t2, rfl, hZ, fun b o q => ?_⟩
    have b1 : b < s.heap.objs.size := Heap.lt_size q
    refine mv.heap b o (fun m => ?_) (Heap.get?_push_of_some _ (Heap.get?_push_of_some _ q))
    rcases List.mem_cons.mp m with m | m
    · exact Nat.ne_of_lt b1 m
    · exact Nat.ne_of_lt (Nat.lt_succ_of_lt b1) ((List.mem_singleton.mp m).trans sz)
  · rcases r2 with er | (v | _ | _ | _) <;> first | exact hz2 | exact hz2.elim | skip
    obtain ⟨rfl, h', tk, rfl, hZ, kp⟩ := hz2
    repeat (any_goals (first | assumption | wp_step))
    exact h _ _ hZ kp
end
/-! ## a list of ints, each once, rising -/
def insI (k : Int) : List Int → List Int
  | [] => [k]
  | x :: xs => if k < x then k :: x :: xs else if k = x then x :: xs else x :: insI k xs
def setI (ns : List Int) : List Int := ns.foldr insI []
theorem mem_insI {j k : Int} : ∀ {xs : List Int}, j ∈ insI k xs ↔ j = k ∨ j ∈ xs
  | [] => by simp [insI]
  | x :: xs => by
    unfold insI
    by_cases h1 : k < x
    · rw [if_pos h1]; simp
    · rw [if_neg h1]
      by_cases h2 : k = x
      · rw [if_pos h2]; subst h2; simp
      · rw [if_neg h2, List.mem_cons, mem_insI, List.mem_cons]
        constructor
        · rintro (z | z | z)
          · exact .inr (.inl z)
          · exact .inl z
          · exact .inr (.inr z)
        · rintro (z | z | z)
          · exact .inr (.inl z)
          · exact .inl z
          · exact .inr (.inr z)
theorem mem_setI {j : Int} : ∀ {ns : List Int}, j ∈ setI ns ↔ j ∈ ns
  | [] => by simp [setI]
  | k :: ns => by
    show j ∈ insI k (setI ns) ↔ _
    rw [mem_insI, mem_setI, List.mem_cons]
theorem insI_lt {k : Int} : ∀ {xs : List Int}, xs.Pairwise (· < ·) → (insI k xs).Pairwise (· < ·)
  | [], _ => by simp [insI]
  | x :: xs, h => by
    obtain ⟨h1, h2⟩ := List.pairwise_cons.mp h
    unfold insI
    by_cases g1 : k < x
    · rw [if_pos g1]
      refine List.pairwise_cons.mpr ⟨fun y hy => ?_, h⟩
      rcases List.mem_cons.mp hy with rfl | hy
      · exact g1
      · have := h1 y hy; omega
    · rw [if_neg g1]
      by_cases g2 : k = x
      · rw [if_pos g2]; exact h
      · rw [if_neg g2]
        refine List.pairwise_cons.mpr ⟨fun y hy => ?_, insI_lt h2⟩
        rcases mem_insI.mp hy with rfl | hy
        · omega
        · exact h1 y hy
theorem setI_lt : ∀ ns : List Int, (setI ns).Pairwise (· < ·)
  | [] => List.Pairwise.nil
  | k :: ns => insI_lt (setI_lt ns)
theorem lt_uniq : ∀ {xs ys : List Int}, xs.Pairwise (· < ·) → ys.Pairwise (· < ·) → (∀ j, j ∈ xs ↔ j ∈ ys) → xs = ys
  | [], [], _, _, _ => rfl
  | [], y :: ys, _, _, h => absurd ((h y).mpr List.mem_cons_self) (by simp)
  | x :: xs, [], _, _, h => absurd ((h x).mp List.mem_cons_self) (by simp)
  | x :: xs, y :: ys, hx, hy, h => by
    obtain ⟨x1, x2⟩ := List.pairwise_cons.mp hx
    obtain ⟨y1, y2⟩ := List.pairwise_cons.mp hy
    have e : x = y := by
      rcases List.mem_cons.mp ((h x).mp List.mem_cons_self) with e | m
      · exact e
      · rcases List.mem_cons.mp ((h y).mpr List.mem_cons_self) with e | m2
        · exact e.symm
        · have := y1 x m; have := x1 y m2; omega
    subst e
    rw [lt_uniq x2 y2 fun j => ?_]
    constructor
    · intro m
      rcases List.mem_cons.mp ((h j).mp (List.mem_cons_of_mem _ m)) with e | m'
      · have := x1 j m; omega
      · exact m'
    · intro m
      rcases List.mem_cons.mp ((h j).mpr (List.mem_cons_of_mem _ m)) with e | m'
      · have := y1 j m; omega
      · exact m'
theorem lt_nodup {xs : List Int} (h : xs.Pairwise (· < ·)) : xs.Nodup := h.imp fun a e => by subst e; omega
theorem len_uniq {α : Type} [DecidableEq α] : ∀ {xs ys : List α}, xs.Nodup → ys.Nodup → (∀ j, j ∈ xs ↔ j ∈ ys) → xs.length = ys.length := fun hx hy h =>
  Nat.le_antisymm (List.Nodup.length_le_of_subset hx fun j m => (h j).mp m) (List.Nodup.length_le_of_subset hy fun j m => (h j).mpr m)
theorem setR_len {w : World} {h : Heap} {a : Addr} {ns : List Int} {c : Nat} (R : SetR w h a (fun j => decide (j ∈ ns)) c) : c = (setI ns).length := by
  obtain ⟨o, es, ep, t, _, _, _, _, nd, hm, _, _, hs, _⟩ := R
  have e : (es.toList.map keyOf).length = (setI ns).length := len_uniq nd (lt_nodup (setI_lt ns)) fun j => by
    rw [← hm j, mem_setI]
    exact decide_eq_true_iff
  rw [← e, List.length_map, Array.length_toList, hs]
/-! ## sets of ints as they come: set(xs) alone, in sorted(..) or len(..) -/
def rSetI (w : World) (K : PySem.W.Frag) : List V → Hp → VK → Prop := fun vs H Q => ∃ l ns, vs = [.ref l] ∧ (SqL K H l (ns.map V.int) ∨ SqT K H l (ns.map V.int)) ∧ ns.length ≤ 4000 ∧
  ∀ p, H p = none → Q (.ref p) (upd H p (SetO w p (fun j => decide (j ∈ ns)) (setI ns).length))
theorem intsOf : ∀ {ns : List Int} {us : List Value}, Vals (ns.map V.int) us → IntsAre us ns
  | [], _, .nil => .nil
  | n :: ns, _, .cons r t => by
    obtain ⟨k, rfl⟩ := r
    exact .cons n k (intsOf t)
theorem setR_first {w : World} {h : Heap} {a : Addr} {ns : List Int} (e : h.get? a = some (emS w)) : ∃ c, c ≤ 0 ∧ SetR w h a (fun j => decide (j ∈ ns.take 0)) c := ⟨0, Nat.le_refl 0, setR_new_at e⟩
theorem call_set_lstI {P : Program} {w : World} {A : Around} {E : Value → Shared → Prop} {s : Shared} {l : Addr} {items : Array Value} (ns : List Int) {Q : Value → Shared → Prop} (hh : A.handled = none) (hl : s.heap.IsList l items) (hi : IntsAre items.toList ns) (hb : ns.length + 1 < scanBound)
    (h : ∀ (h' : Heap) (tk c : Nat), SetR w h' s.heap.objs.size (fun j => decide (j ∈ ns)) c → c ≤ ns.length → (∀ b o, s.heap.get? b = some o → h'.get? b = some o) → Q (.ref s.heap.objs.size) { s with heap := h', toks := tk }) :
    wpAny (model P w) A (call (.type "set") [.ref l]) Q E s := by
  have sz : items.size = ns.length := by
    have := IntsAre.length hi
    rwa [Array.length_toList] at this
  refine set_of_list (Z := fun a h' => ∃ c, c ≤ ns.length ∧ SetR w h' a (fun j => decide (j ∈ ns)) c) hl hh (fun B I s1 R hB _ k e0 it l1 n1 n2 n3 fin => ?_) fun h' tk ⟨c, hc, R⟩ k => h h' tk c R hc k
  refine set_update_ints ((Walks.list (by simp [hB]) I l n2 items).toS) s.heap.objs.size ?_ ns sz hb ?_ (items.size - 0) 0 s1 (by omega) (Nat.zero_le _) ⟨it, l1⟩ (setR_first e0) fun s2 c mv hc R => fin s2 mv ⟨c, by omega, R⟩
  · intro m
    rcases List.mem_cons.mp m with m | m
    · exact Nat.ne_of_lt n1 m
    · exact n3 (List.mem_singleton.mp m).symm
  · intro i v hv
    have hi' : i < ns.length := by rw [← sz]; exact (Array.getElem?_eq_some_iff.mp hv).1
    obtain ⟨t, e⟩ := IntsAre.int_at hi i v (by rw [Array.getElem?_toList]; exact hv)
    refine ⟨ns[i], t, List.getElem?_eq_getElem hi', ?_⟩
    rw [e, List.getD_eq_getElem?_getD, List.getElem?_eq_getElem hi']
    rfl
theorem cr_setI {X : Cx} (hc : X.calm = true) : CallR X (.type "set") (rSetI X.w X.K) := by
  intro pins s σ H vs us Q I r ⟨l, ns, e, hq, hl, q⟩
  subst e
  obtain ⟨u, rfl, ru⟩ := vals1 r
  cases ru
  have fin : ∀ (h' : Heap) (tk c : Nat), SetR X.w h' s.heap.objs.size (fun j => decide (j ∈ ns)) c → c ≤ ns.length → (∀ b o, s.heap.get? b = some o → h'.get? b = some o) → EP X pins σ Q (.ref s.heap.objs.size) { s with heap := h', toks := tk } :=
    fun h' tk c R _ k => by
      cases setR_len R
      exact ⟨.ref _, _, I.laid (t' := tk) k (Nat.le_refl _) (setO_new R), rfl, q _ (I.hok.fresh (Nat.le_refl _))⟩
  rcases hq with hq | hq
  · obtain ⟨its, r1, pl, _⟩ := I.list hq
    exact call_set_lstI ns (I.ok.hd hc) pl.isList (by simpa using intsOf r1) (by unfold scanBound; omega) fin
  · obtain ⟨its, r1, pl, _⟩ := I.tuple hq
    exact call_set_tupI ns (I.ok.hd hc) pl (by simpa using intsOf r1) (by unfold scanBound; omega) fin
/-! ## sorted(set(xs)), len(set(xs)) -/
def intsOfD (d : D) : Option (List Int) := (alt d.lst? d.tup?).bind fun xs => allQ D.int? xs
theorem intsOfD_eq {K : PySem.W.Frag} {G H : Hp} {A : List Addr} {S : Sto} {v : V} {d : D} {ns : List Int} (R : Rel K A S G H) (h : Dv K G A H v d) (e : intsOfD d = some ns) : ∃ l, v = .ref l ∧ (SqL K H l (ns.map V.int) ∨ SqT K H l (ns.map V.int)) := by
  unfold intsOfD at e
  obtain ⟨xs, e1, e2⟩ := Option.bind_eq_some_iff.mp e
  cases d with
  | lst ds =>
    cases e1
    obtain ⟨l, vs, rfl, s, t⟩ := h.lstE R
    have := ints_rel t e2
    subst this
    exact ⟨l, rfl, .inl s.sq⟩
  | tup ds =>
    cases e1
    obtain ⟨l, vs, rfl, s, t⟩ := h.tupE R
    have := ints_rel t e2
    subst this
    exact ⟨l, rfl, .inr s.sq⟩
  | _ => cases e1
theorem setI_len : ∀ ns : List Int, (setI ns).length ≤ ns.length := fun ns =>
  List.Nodup.length_le_of_subset (lt_nodup (setI_lt ns)) fun j m => mem_setI.mp m
theorem Ex.beside' {A A' : List Addr} {G H G' H' : Hp} (e : Ex A G H A' G' H') {p : Addr} (h : H' p = none) (o : HO) : Ex A G H A' G' (upd H' p o) :=
  ⟨e.g, e.p, fun a u n q => ⟨(e.f a u n q).1, by rw [upd_ne (ne_of_none (e.f a u n q).2 h)]; exact (e.f a u n q).2⟩, e.kx, fun a u q => by
    obtain ⟨o', q'⟩ := e.l a u q
    exact ⟨o', by rw [upd_ne (ne_of_none q' h)]; exact q'⟩⟩
section
variable {X : Cx} {EE : XK} {a : Expr} {fa : FEx} {p p2 q pos : Pos}
theorem dn_ints {K : PySem.W.Frag} {G : Hp} {A : List Addr} (ns : List Int) : DnAll K G A (ns.map V.int) (ns.map D.int) := by
  induction ns with
  | nil => exact .nil
  | cons n ns ih => exact .cons (.int n) ih
end
end FL
end
section
set_option Elab.async false
set_option linter.all false
set_option maxRecDepth 100000
set_option autoImplicit false
set_option maxHeartbeats 4000000
namespace FL
open PySem PySem.Spec PyProof.Rows L2
/-! ## [e for x in xs if ..], xs a list of the store: it stays as it is -/
/-! ## their values -/
end FL
end
section
set_option Elab.async false
set_option linter.all false
set_option maxRecDepth 100000
set_option autoImplicit false
set_option maxHeartbeats 4000000
namespace FL
open PySem PySem.Spec PyProof.Rows L2
end FL
end
section
set_option Elab.async false
set_option linter.all false
set_option maxRecDepth 100000
set_option autoImplicit false
set_option maxHeartbeats 4000000
namespace FL
open PySem PySem.Spec PyProof.Rows L2
/-! ## sets of texts -/
def tkey (e : Int × Value) : Str := match e.2 with | .str k _ => k | _ => ""
def GoodT (w : World) (e : Int × Value) : Prop := ∃ k tk, e.2 = Value.str k tk ∧ e.1 = hashStr w k
/-- the set of texts at a: S its members, n their number; its table rises and can be walked -/
def SetT (w : World) (h : Heap) (a : Addr) (S : Str → Bool) (n : Nat) : Prop :=
  ∃ o es ep t, h.get? a = some o ∧ o.ExactSet ∧ o.data = .set es ep t ∧ (∀ e ∈ es.toList, GoodT w e) ∧ (es.toList.map tkey).Nodup ∧ (∀ k, S k = true ↔ k ∈ es.toList.map tkey) ∧
    es.size < scanBound ∧ t.fits es.size = true ∧ es.size = n ∧ Ris t.place.toList ∧ (w.params.followText "set-order" = true ∨ t.led = true)
section
variable {P : Program} {w : World} {h h' : Heap} {a : Addr} {S : Str → Bool} {n : Nat}
theorem SetT.at (R : SetT w h a S n) (k : ∀ o, h.get? a = some o → h'.get? a = some o) : SetT w h' a S n := by
  obtain ⟨o, es, ep, t, ho, r⟩ := R
  exact ⟨o, es, ep, t, k o ho, r⟩
end
/-! ## the rules -/
end FL
end
section
set_option Elab.async false
set_option linter.all false
set_option maxRecDepth 100000
set_option autoImplicit false
set_option maxHeartbeats 4000000
namespace FL
open PySem PySem.Spec PyProof.Rows L2
end FL
end
section
set_option Elab.async false
set_option linter.all false
set_option maxRecDepth 100000
set_option autoImplicit false
set_option maxHeartbeats 4000000
namespace FL
open PySem PySem.Spec PyProof.Rows L2
end FL
end
section
set_option Elab.async false
set_option linter.all false
set_option maxRecDepth 100000
set_option autoImplicit false
set_option maxHeartbeats 2000000
namespace FX
open PySem PySem.Spec PySem.W PySem.Calls PyProof.Rows
/-- what is known of def __init__(self, a, b): super().__init__(a, b); .. of the class at D, its function at f, as C's own -/
structure Init2 (prog : Program) (K : W.Frag) (f C D cda cc : Addr) (n0 n1 n2 : Str) (scope : Scope) (fd : FuncData) : Prop where
  fn : ∃ oc od osl, K.lookup f = some ⟨oc, od, .func fd, osl⟩
  first : ∃ ar, (fd.params.posonlyargs ++ fd.params.args).head? = some ar ∧ ar.arg = n0
  code : ∃ ccl cdd vs ccs file tf, K.lookup cda = some ⟨ccl, cdd, .fields vs, ccs⟩ ∧ vs[2]? = some (.str file tf) ∧ ((prog.main.file : Str) == file) = true
  cell : ∃ cl cld csl, K.lookup cc = some ⟨cl, cld, .cell (some (.ref D)), csl⟩
  clsD : ∃ cdD, clsIn K D = some cdD
  sub : mroIn K C (.ref D) = some true
  up : ks_superIn K C D "__init__" = some (some (.builtin "ValueError.__init__"))
  ve : subIn K (.ref C) (.type "ValueError") = some true
  no : nsIn K cStatics "thirdparty.any" = some none
  sup : scope.names.lookup ("super" : Str) = some .globalImplicit
  cls : scope.names.lookup ("__class__" : Str) = some .free
  l0 : scope.names.lookup n0 = some .local
  l1 : scope.names.lookup n1 = some .local
  l2 : scope.names.lookup n2 = some .local
  d1 : (n1 == ("__debug__" : Str)) = false
  d2 : (n2 == ("__debug__" : Str)) = false
  kind : scope.kind = .function
  top : (prog.main.scope.names.lookup ("super" : Str)).isSome = false
end FX
end
section
set_option Elab.async false
set_option linter.all false
set_option maxRecDepth 100000
set_option autoImplicit false
set_option maxHeartbeats 4000000
namespace FL
open PySem PySem.Spec PyProof.Rows L2
/-! ## a def that may raise -/
end FL
end
section
set_option Elab.async false
set_option linter.all false
set_option maxRecDepth 100000
set_option autoImplicit false
set_option maxHeartbeats 4000000
/-! Errors that stand in the store: isinstance, attributes; defs called while an error is handled. -/
namespace FL
open PySem PySem.Spec PyProof.Rows L2
/-! ## a def that is called while an error is handled -/
end FL
end
section
set_option Elab.async false
set_option linter.all false
set_option maxRecDepth 100000
set_option autoImplicit false
set_option maxHeartbeats 400000
/-! An except suite hands the error that it holds to a def. -/
namespace FL
open PySem PySem.Spec PyProof.Rows L2
end FL
end
section
set_option Elab.async false
set_option linter.all false
set_option maxRecDepth 100000
set_option autoImplicit false
set_option maxHeartbeats 600000
/-! A lambda without parameters handed to a def that asks it and tells how it ended. -/
namespace FL
open PySem PySem.Spec PyProof.Rows L2
end FL
end
section
set_option Elab.async false
set_option linter.all false
set_option maxRecDepth 100000
set_option autoImplicit false
set_option maxHeartbeats 600000
namespace FL
open PySem PySem.Spec PyProof.Rows L2
end FL
end
section
set_option Elab.async false
set_option linter.all false
set_option maxRecDepth 100000
set_option autoImplicit false
set_option maxHeartbeats 1000000
/-! What the head tells of the errors' classes and of the tables of code objects. -/
namespace FL
open PySem PySem.Spec PyProof.Rows L2
/-- a class of errors: its name, its two fields, the classes above it and itself -/
structure Row where
  C : Str
  n1 : Str
  n2 : Str
  up : List Str
abbrev InitV : Type := Option (Str × Str × Arguments × FuncBody × Scope × Addr × List Str × Value × Addr)
def ini (K : PySem.W.Frag) (C : Str) : Addr := He.ma K (He.ga K C) "__init__"
abbrev mkInit (qual : Str) (params : Arguments) (body : List Stmt) (scope : Scope) : InitV := some (("__init__" : Str), qual, params, FuncBody.stmts body, scope, mainGlobals, [("__class__" : Str)], Value.none, builtinsNs)
def initW (K : PySem.W.Frag) (C : Str) : InitV := match K.lookup (ini K C) with
  | some ⟨_, _, .func fd, _⟩ => some (fd.name, fd.qualname, fd.params, fd.body, fd.scope, fd.globals, fd.closure.map (·.1), fd.defaults, fd.builtins)
  | _ => none
/-- the function behind __init__ -/
def initF (K : PySem.W.Frag) (C : Str) : Option FuncData := match K.lookup (ini K C) with
  | some ⟨_, _, .func fd, _⟩ => some fd
  | _ => none
def oexB (K : PySem.W.Frag) (C : Addr) : Bool := match K.lookup C with
  | some ⟨.type t, _, .cls cd, sl⟩ => (match cd.mro, sl.toList with
    | .ref D :: bm, [_, _, _, _, some (.builtin n), _] => decide (t = "type") && (decide (D = C) && (decide (n = "ValueError.__new__") && (!cd.hasDel && (cd.hasDict && PySem.HandSPX.refsVE bm))))
    | _, _ => false)
  | _ => false
def codeB (file : Str) (K : PySem.W.Frag) (q : Str) : Value → Bool
  | .ref c => PySem.W.codeIn K (.ref c) q && (match K.lookup c with
    | some ⟨_, _, .fields vs, _⟩ => (match (vs[2]? : Option Value) with
      | some (.str f _) => (file == f)
      | _ => false)
    | _ => false)
  | _ => false
def cellB (K : PySem.W.Frag) (D : Addr) : List (Str × Addr) → Bool
  | [(x, cc)] => decide (x = "__class__") && (match K.lookup cc with
    | some ⟨_, _, .cell (some (.ref E)), _⟩ => decide (E = D)
    | _ => false)
  | _ => false
def dE (a b : Option (Option Value)) : Bool := decide (a = b)
def dB (a b : Option Bool) : Bool := decide (a = b)
def rowB (file root : Str) (asked : List Str) (K : PySem.W.Frag) (r : Row) : List Bool :=
  let C := He.ga K r.C
  [oexB K C, dE (PySem.W.findIn K (.ref C) "__setattr__") (some (some (.builtin "object.__setattr__"))), dB (PySem.W.subIn K (.ref C) (.type "BaseException")) (some true), decide (PySem.W.typeIn K (.ref C) = some (.type "type")), PySem.W.keepIn K (.ref C),
    dE (PySem.W.findIn K (.ref C) r.n1) (some none), dE (PySem.W.findIn K (.ref C) r.n2) (some none), (match initF K r.C with
      | some fd => codeB file K fd.qualname fd.code && cellB K C fd.closure
      | none => false), (PySem.W.clsIn K C).isSome, dB (PySem.W.mroIn K C (.ref C)) (some true), dE (PySem.W.ks_superIn K C C "__init__") (some (some (.builtin "ValueError.__init__"))), dB (PySem.W.subIn K (.ref C) (.type "ValueError")) (some true),
    dE (PySem.W.nsIn K cStatics "thirdparty.any") (some none), dE (PySem.W.findIn K (.ref C) "__init__") (some (some (.ref (ini K r.C)))), decide (PySem.W.typeIn K (.ref (ini K r.C)) = some (.type "function")),
    dE (PySem.W.findIn K (.ref C) "__getattribute__") (some (some (.builtin "BaseException.__getattribute__"))), dE (PySem.W.findIn K (.ref C) "__getattr__") (some none), PySem.W.hasDictIn K C, dE (PySem.W.findIn K (.ref C) "__class__") (some (some (.builtin "object.__class__"))),
    dE (PySem.W.specialIn K (.builtin "object.__class__") "__get__") (some (some (.builtin "getset_descriptor.__get__"))), dB (PySem.W.takesIn K (.builtin "object.__class__")) (some true), dB (PySem.W.mroIn K C (.type "object")) (some true),
    K.all (fun q => !decide (q.2.cls = .ref C)), dB (PySem.W.exmOne K (.ref C) (.ref (He.ga K root))) (some true), asked.all (fun a => dB (PySem.W.kitOne K (.ref C) (.ref (He.ga K a))) (some (r.up.contains a))),
    dB (PySem.W.kitOne K (.ref C) (.type "ValueError")) (some (r.up.contains "ValueError")), (match initF K r.C with
      | some fd => PySem.W.keepIn K (.ref (ini K r.C))
      | none => false)]
theorem all_at {l : List Bool} (h : l.all id = true) {i : Nat} {b : Bool} (e : l[i]? = some b) : b = true := List.all_eq_true.mp h b (List.mem_of_getElem? e)
theorem codeB_ok {file : Str} {K : PySem.W.Frag} {q : Str} {v : Value} (h : codeB file K q v = true) : ∃ cda, v = .ref cda ∧ PySem.W.codeIn K (.ref cda) q = true ∧ ∃ ccl cdd vs ccs f tf, K.lookup cda = some ⟨ccl, cdd, .fields vs, ccs⟩ ∧ vs[2]? = some (.str f tf) ∧ (file == f) = true := by
  cases v with
  | ref c =>
    obtain ⟨h1, h2⟩ := Bool.and_eq_true_iff.mp h
    refine ⟨c, rfl, h1, ?_⟩
    split at h2
    · rename_i a1 a2 vs a3 hk
      split at h2
      · rename_i f tf hf
        exact ⟨_, _, vs, _, f, tf, hk, hf, h2⟩
      · cases h2
    · cases h2
  | _ => cases h
theorem cellB_ok {K : PySem.W.Frag} {D : Addr} {l : List (Str × Addr)} (h : cellB K D l = true) : ∃ cc, l = [(("__class__" : Str), cc)] ∧ ∃ cl cld csl, K.lookup cc = some ⟨cl, cld, .cell (some (.ref D)), csl⟩ := by
  match l, h with
  | [(x, cc)], h =>
    obtain ⟨h1, h2⟩ := Bool.and_eq_true_iff.mp h
    have h1 := of_decide_eq_true h1
    subst h1
    refine ⟨cc, rfl, ?_⟩
    split at h2
    · rename_i a1 a2 E a3 hk
      have h2 := of_decide_eq_true h2
      subst h2
      exact ⟨_, _, _, hk⟩
    · cases h2
/-- the function __init__ of a class of errors -/
theorem init_ok {file root : Str} {asked : List Str} {K : PySem.W.Frag} {r : Row} {P : Program} {n0 n1 n2 qual : Str} {params : Arguments} {body : List Stmt} {scope : Scope} (h : (rowB file root asked K r).all id = true) (hv : initW K r.C = mkInit qual params body scope)
    (hfile : (P.main.file : Str) = file) (hfirst : ∃ ar, (params.posonlyargs ++ params.args).head? = some ar ∧ ar.arg = n0) (sup : scope.names.lookup ("super" : Str) = some .globalImplicit) (cls : scope.names.lookup ("__class__" : Str) = some .free) (l0 : scope.names.lookup n0 = some .local) (l1 : scope.names.lookup n1 = some .local) (l2 : scope.names.lookup n2 = some .local)
    (d1 : (n1 == ("__debug__" : Str)) = false) (d2 : (n2 == ("__debug__" : Str)) = false) (kind : scope.kind = .function) (top : (P.main.scope.names.lookup ("super" : Str)).isSome = false) :
    ∃ kV doc pm an cda ct cc, PySem.W.codeIn K (.ref cda) qual = true ∧ FX.Init2 P K (ini K r.C) (He.ga K r.C) (He.ga K r.C) cda cc n0 n1 n2 scope (PySem.W.ksFn "__init__" qual params body scope .none kV doc pm an (.ref cda) ct cc) := by
  have g : ∀ i b, (rowB file root asked K r)[i]? = some b → b = true := fun i b e => all_at h e
  have e1 := g 7 _ rfl
  have d : ∀ {a b : Option (Option Value)}, dE a b = true → a = b := fun h => of_decide_eq_true h
  have dd2 : ∀ {a b : Option Bool}, dB a b = true → a = b := fun h => of_decide_eq_true h
  unfold initW at hv
  unfold initF at e1
  cases q : K.lookup (ini K r.C) with
  | none => rw [q] at hv; cases hv
  | some o =>
    obtain ⟨oc, od, dt, osl⟩ := o
    rw [q] at hv e1
    cases dt with
    | func fd =>
      have hv := Option.some.inj hv
      have e1 : (codeB file K fd.qualname fd.code && cellB K (He.ga K r.C) fd.closure) = true := e1
      obtain ⟨fn, fq, fp, fb, fs, fg, fcl, fdv, fkv, fdoc, fpm, fan, fcd, fct, fbl⟩ := fd
      obtain ⟨v1, hv⟩ := Prod.mk.inj hv
      obtain ⟨v2, hv⟩ := Prod.mk.inj hv
      obtain ⟨v3, hv⟩ := Prod.mk.inj hv
      obtain ⟨v4, hv⟩ := Prod.mk.inj hv
      obtain ⟨v5, hv⟩ := Prod.mk.inj hv
      obtain ⟨v6, hv⟩ := Prod.mk.inj hv
      obtain ⟨v7, hv⟩ := Prod.mk.inj hv
      obtain ⟨v8, v9⟩ := Prod.mk.inj hv
      dsimp only at v1 v2 v3 v4 v5 v6 v7 v8 v9 e1
      subst v1 v2 v3 v4 v5 v6 v8 v9
      obtain ⟨c1, c2⟩ := Bool.and_eq_true_iff.mp e1
      have c1 : codeB file K fq fcd = true := c1
      have c2 : cellB K (He.ga K r.C) fcl = true := c2
      obtain ⟨cda, rfl, c3, c4⟩ := codeB_ok c1
      obtain ⟨cc, rfl, c5⟩ := cellB_ok c2
      obtain ⟨y1, y2, y3, y4, y5, y6, y7, y8⟩ := c4
      exact ⟨fkv, fdoc, fpm, fan, cda, fct, cc, c3, ⟨⟨oc, od, osl, q⟩, hfirst, ⟨y1, y2, y3, y4, y5, y6, y7, y8.1, by rw [hfile]; exact y8.2⟩, c5, Option.isSome_iff_exists.mp (g 8 _ rfl), dd2 (g 9 _ rfl), d (g 10 _ rfl), dd2 (g 11 _ rfl), d (g 12 _ rfl), sup, cls, l0, l1, l2, d1, d2, kind, top⟩⟩
    | _ => cases hv
/-! ## the hook -/
def initAs (g : Addr → Option Obj) (K : PySem.W.Frag) (C : Str) : List Addr := ini K C :: (match g (ini K C) with
  | some o => He.refsD o
  | none => [])
def asY (n : Nat) (cls : List Str) (g : Addr → Option Obj) : List Addr := cStatics :: (He.asD g n ++ cls.flatMap (initAs g (He.frG g (He.asD g n))))
abbrev AlY : Type := He.AlX × List InitV
def obsY (fa : List He.Fa) (fn : List He.DefD) (ts : List He.Tab) (tf : List He.Defn) (ex : PySem.W.Frag → Bool) (cls : List Str) (K : PySem.W.Frag) (g : Addr → Option Obj) : AlY := ((He.obsT fa fn ts K, ex K && He.tabsB g tf K), cls.map (initW K))
theorem saysY {fa : List He.Fa} {fn : List He.DefD} {ts : List He.Tab} {tf : List He.Defn} {ex : PySem.W.Frag → Bool} {w : World} {h : Heap} {as : List Addr} (e : (He.obsT fa fn ts (He.frT h.get? as), ex (He.frT h.get? as) && He.tabsB h.get? tf (He.frT h.get? as)) = He.valX fn ts w) : He.SaysX fa fn ts tf ex w h (He.frT h.get? as) := by
  obtain ⟨e1, e2⟩ := Prod.mk.inj e
  obtain ⟨h1, h2⟩ := Bool.and_eq_true_iff.mp e2
  have key : ∀ p ∈ tf, PySem.W.codeHdIn (He.frT h.get? as) (He.cT (He.frT h.get? as) p).1 (He.cT (He.frT h.get? as) p).2 = true ∧ ∃ o, h.get? (He.cT (He.frT h.get? as) p).2 = some o ∧ He.emptyTab o = true := fun p hp => by
    obtain ⟨y1, y2⟩ := Bool.and_eq_true_iff.mp (List.all_eq_true.mp h2 p hp)
    refine ⟨y1, ?_⟩
    split at y2
    · rename_i o q
      exact ⟨o, q, y2⟩
    · cases y2
  refine ⟨e1, h1, fun p hp => (key p hp).1, fun p hp => ?_, fun p hp => ?_⟩
  · obtain ⟨_, o, q, z⟩ := key p hp
    exact He.frT_none q z
  · obtain ⟨_, o, q, z⟩ := key p hp
    rw [q, He.emptyTab_eq z]
end FL
end
section
set_option Elab.async false
set_option linter.all false
set_option maxRecDepth 100000
set_option autoImplicit false
set_option maxHeartbeats 1000000
/-! The end of a law whose store begins with tables of code objects; the facts that the walks take. -/
namespace FL
open PySem PySem.Spec PyProof.Rows L2
/-- a def's code object and its table -/
abbrev tC (K : PySem.W.Frag) (nm : Str) : Addr := (He.cT K (nm, none)).1
/-! ## what the walks take -/
end FL
end
section
set_option Elab.async false
set_option linter.all false
set_option maxRecDepth 100000
set_option autoImplicit false
set_option maxHeartbeats 600000
/-! try: .. / except C as e: f = e - the error outlives the suite. -/
namespace FL
open PySem PySem.Spec PyProof.Rows L2
/-- the error is tracked from now on -/
theorem Inv.err {X : Cx} {pins : List (Addr × Obj)} {σ : L2.St} {H : Hp} {s : Shared} {a : Addr} {oe : Obj} {us : Array Value} (I : L2.Inv X ((a, oe) :: pins) σ H s) (hd : oe.data = .fields us) (n0 : X.s_0.heap.get? a = none) (np : ∀ p ∈ X.pn ++ pins, p.1 ≠ a) : L2.Inv X pins σ (upd H a (ErrO a oe)) s := by
  obtain ⟨get, na, nl, nf, nc⟩ := I.pin (a, oe) (List.mem_append_right _ List.mem_cons_self)
  have get : s.heap.get? a = some oe := get
  have na : H a = none := na
  have nl : a ≠ X.env.locals := nl
  have hn : ∀ {b : Addr} {o : HO}, H b = some o → upd H a (ErrO a oe) b = some o := fun {b o} e => by rw [upd_ne (ne_of_none e na)]; exact e
  have u := I.base
  refine ⟨I.ok, I.os, I.bare, ⟨u.keep, u.slot, fun b o e n hx => ?_, u.there, fun b xs e => hn (u.tups b xs e), fun b o v e => hn (u.frzs b o v e), fun b ps e => ?_⟩, I.loc, I.cell, ?_, fun x c e => ?_, fun p hp => ?_, fun b o e => ?_, I.len⟩
  · have hb : b ≠ a := fun z => by
      rw [z, n0] at e
      cases e
    rw [upd_ne hb]
    exact u.free b o e n hx
  · obtain ⟨more, e2⟩ := u.tbls b ps e
    exact ⟨more, hn e2⟩
  · rw [upd_ne nl.symm]
    exact I.free
  · have hb : c ≠ a := fun z => by
      obtain ⟨v, o, ho, hd2⟩ := I.cell x c e
      rw [z, get] at ho
      cases ho
      rw [hd] at hd2
      cases hd2
    rw [upd_ne hb]
    exact I.freeC x c e
  · obtain ⟨y1, y2, y3, y4, y5⟩ := I.pin p (by
      rcases List.mem_append.mp hp with z | z
      · exact List.mem_append_left _ z
      · exact List.mem_append_right _ (List.mem_cons_of_mem _ z))
    exact ⟨y1, by rw [upd_ne (np p hp)]; exact y2, y3, y4, y5⟩
  · by_cases hb : b = a
    · subst hb
      rw [upd_same] at e
      cases e
      exact ⟨get, get, ⟨oe, get⟩, fun h1 h2 g st => st _ g⟩
    · rw [upd_ne hb] at e
      exact (I.hok b o e).stay (fun _ _ _ q => q) (fun c hc => hn hc) fun c xs hc => hn hc
end FL
end
section
set_option Elab.async false
set_option linter.all false
set_option maxRecDepth 100000
set_option autoImplicit false
set_option maxHeartbeats 600000
/-! A lambda handed to a def that asks it, keeps the error and tells of it behind the try. -/
namespace FL
open PySem PySem.Spec PyProof.Rows L2
end FL
end
section
set_option Elab.async false
set_option linter.all false
set_option maxRecDepth 100000
set_option autoImplicit false
set_option maxHeartbeats 600000
/-! Dicts of the module with text keys, read only: x in D, D[x]. -/
namespace FL
open PySem PySem.Spec PyProof.Rows L2
/-! ## a def that makes a lambda and raises nothing -/
section
variable {P : Program} {w : World} {K : PySem.W.Frag} {mg : Str → Option Value} {base : Heap} {k : Nat} {f : Addr} {fd : FuncData} {N ps : List Str} {x qual : Str} {params : Arguments} {body : List Stmt} {scope : Scope} {dfv : List V} {kwv : List (Str × V)} {fb : FSx} {keep : Bool}
theorem FnD.up {CX : CXT} {F : List D → M D} (h : FnD P w K mg base C8.CX0 k f fd ps F) : FnD P w K mg base CX k f fd ps F := fun B outer s H args us vs Q E G A S ds hr hg e0 hb r hl R t q =>
  codeAny_mono (h B outer s H args us vs Q E G A S ds hr hg e0 hb r hl R t q) fun o s' z => by
    cases o with
    | error e => exact (show False from z).elim
    | ok fl => cases fl <;> exact z
end
end FL
end
section
set_option Elab.async false
set_option linter.all false
set_option maxRecDepth 100000
set_option autoImplicit false
set_option maxHeartbeats 4000000
namespace FL
open PySem PySem.Spec PyProof.Rows L2
/-! sorted(set(x)) of a tuple or a list of texts. -/
end FL
end
section
set_option Elab.async false
set_option linter.all false
set_option maxRecDepth 100000
set_option autoImplicit false
set_option maxHeartbeats 4000000
/-! x[::-1] of a list or of a tuple. -/
namespace FL
open PySem PySem.Spec PyProof.Rows L2
end FL
end
section
set_option Elab.async false
set_option linter.all false
set_option maxRecDepth 100000
set_option autoImplicit false
set_option maxHeartbeats 4000000
namespace FL
open PySem PySem.Spec PyProof.Rows L2
end FL
end
section
set_option Elab.async false
set_option linter.all false
set_option maxRecDepth 100000
set_option autoImplicit false
set_option maxHeartbeats 4000000
namespace FL
open PySem PySem.Spec PyProof.Rows L2
/-! ## sorted of a list of ints -/
def sortI (ns : List Int) : List Int := ns.mergeSort fun a b => decide (a ≤ b)
theorem sortI_perm (ns : List Int) : (sortI ns).Perm ns := List.mergeSort_perm _ _
theorem sortI_le (ns : List Int) : (sortI ns).Pairwise (· ≤ ·) := by
  have h := List.pairwise_mergeSort (le := fun a b : Int => decide (a ≤ b)) (fun a b c h1 h2 => by
    rw [decide_eq_true_eq] at h1 h2 ⊢
    omega) (fun a b => by
    rw [Bool.or_eq_true, decide_eq_true_eq, decide_eq_true_eq]
    omega) ns
  exact h.imp fun {a b} z => of_decide_eq_true z
theorem le_uniq {xs ys : List Int} (p : xs.Perm ys) (h1 : xs.Pairwise (· ≤ ·)) (h2 : ys.Pairwise (· ≤ ·)) : xs = ys :=
  p.eq_of_pairwise (fun a b _ _ h3 h4 => by omega) h1 h2
def sortIntD : List D → Option D := one fun d => (d.lst?.bind fun xs => allQ D.int? xs).map fun ns => .lst ((sortI ns).map .int)
theorem call_sortIntD {X : Cx} : CallR X (.builtin "sorted") (rDs X.K sortIntD) := by
  intro pins s σ H xs us Q I r ⟨G, A, S, ds, z, R, hds, hgs, q⟩
  obtain ⟨d, rfl, hg⟩ := one_eq hgs
  obtain ⟨x, rfl, hd⟩ := hds.one
  obtain ⟨ns, hn, rfl⟩ := Option.map_eq_some_iff.mp hg
  obtain ⟨es, e1, e2⟩ := Option.bind_eq_some_iff.mp hn
  cases D.lst?_eq e1
  obtain ⟨a, vs, rfl, s1, t1⟩ := hd.lstE R
  have ev := ints_rel t1 e2
  subst ev
  refine cr_sortedI pins s σ H _ us Q I r ⟨a, ns, rfl, s1.sq, fun ns' p h1 h2 h3 => ?_⟩
  have en : ns' = sortI ns := le_uniq (h1.trans (sortI_perm ns).symm) h2 (sortI_le ns)
  subst en
  exact q _ _ _ (R.exNew h3 _) (R.new h3 _) (.lst (.inl (.of upd_same)) (dn_ints _))
end FL
end
section
set_option Elab.async false
set_option linter.all false
set_option maxRecDepth 100000
set_option autoImplicit false
set_option maxHeartbeats 4000000
namespace FL
open PySem PySem.Spec PyProof.Rows L2
/-! ## the list of a dict's keys -/
end FL
end
section
set_option Elab.async false
set_option linter.all false
set_option maxRecDepth 100000
set_option autoImplicit false
set_option maxHeartbeats 4000000
namespace FL
open PySem PySem.Spec PyProof.Rows L2
/-! ## zip of a tuple and a list -/
end FL
end
section
set_option Elab.async false
set_option linter.all false
set_option maxRecDepth 100000
set_option autoImplicit false
set_option maxHeartbeats 4000000
namespace FL
open PySem PySem.Spec PyProof.Rows L2 GenW
/-! ## for, in a generator's body -/
end FL
end
section
set_option Elab.async false
set_option linter.all false
set_option maxRecDepth 100000
set_option autoImplicit false
set_option maxHeartbeats 4000000
namespace FL
open PySem PySem.Spec PyProof.Rows L2 GenW
/-! ## a generator def's body: what is out so far, and the flow -/
def QGE (K : PySem.W.Frag) (G : Hp) (A : List Addr) (H : Hp) (T : List V → L2.St → Hp → Prop) (yd : List D) (r : Env) (S' : Sto) : Prop :=
  ∀ G' A' H' s' ys', Ex A G H A' G' H' → Rel K A' S' G' H' → EnvR K G' A' s' r → DnAll K G' A' ys' yd → T ys' s' H'
def QGF (K : PySem.W.Frag) (G : Hp) (A : List Addr) (H : Hp) (T : GEnds) : List D × Fl → Sto → Prop := fun p S' => match p.2 with
  | .nx r => QGE K G A H T.nx p.1 r S'
  | .bk r => QGE K G A H T.bk p.1 r S'
  | .ct r => QGE K G A H T.ct p.1 r S'
  | .rt d => ∀ G' A' H' v ys', Ex A G H A' G' H' → Rel K A' S' G' H' → Dn K G' A' v d → DnAll K G' A' ys' p.1 → T.rt ys' v H'
theorem QGE.mono {K : PySem.W.Frag} {G G1 H H1 : Hp} {A A1 : List Addr} {S : Sto} {T : List V → L2.St → Hp → Prop} {yd : List D} {r : Env} (e : Ex A G H A1 G1 H1) (h : QGE K G A H T yd r S) : QGE K G1 A1 H1 T yd r S :=
  fun G' A' H' s' ys' a => h G' A' H' s' ys' (e.trans a)
theorem QGF.mono {K : PySem.W.Frag} {G G1 H H1 : Hp} {A A1 : List Addr} {S : Sto} {T : GEnds} {p : List D × Fl} (e : Ex A G H A1 G1 H1) (h : QGF K G A H T p S) : QGF K G1 A1 H1 T p S := by
  obtain ⟨yd, fl⟩ := p
  cases fl with
  | nx r => exact QGE.mono e h
  | bk r => exact QGE.mono e h
  | ct r => exact QGE.mono e h
  | rt d => exact fun G' A' H' v ys' a => h G' A' H' v ys' (e.trans a)
/-! ## a generator def, called under list(..) -/
def QYs (K : PySem.W.Frag) (G : Hp) (A : List Addr) (H : Hp) (cont : List V → Hp → Prop) : D → Sto → Prop := fun d S' =>
  ∃ yd, d = .lst yd ∧ ∀ G' A' H' ys, Ex A G H A' G' H' → Rel K A' S' G' H' → DnAll K G' A' ys yd → cont ys H'
def spG (K : PySem.W.Frag) (ps : List Str) (F : List D → M D) : SpG := fun vs H cont _ => vs.length = ps.length ∧ ∃ G A S ds, Rel K A S G H ∧ DnAll K G A vs ds ∧ (F ds S).post (QYs K G A H cont) (fun _ _ => True)
/-- a generator def that may be called by its name -/
structure CalG (P : Program) (w : World) (K : PySem.W.Frag) (mg : Str → Option Value) (base : Heap) (k : Nat) (x : Str) (n : Nat) (ks : List Str) (g : List D → List D → List D) (F : List D → M D) : Prop where
  ex : ∃ (f : Addr) (fd : FuncData) (ps : List Str), GFn P w K mg base k f fd ps (spG K ps F) ∧ mg x = some (.ref f) ∧ PySem.W.keepIn K (.ref f) = true ∧ BdD K fd ps n ks g
section
variable {X : Cx} {EE : XK} {k j n : Nat} {x : Str} {ks : List Str} {g : List D → List D → List D} {F : List D → M D} {p p2 pos pos2 : Pos} {e : Expr} {es : List Expr} {kws : List Keyword} {fa fk : FAx}
theorem CalG.fn (c : CalG X.prog X.w X.K X.mg X.base k x n ks g F) : ∃ f, X.mg x = some (.ref f) ∧ PySem.W.keepIn X.K (.ref f) = true := by
  obtain ⟨f, fd, ps, _, h1, h2, _⟩ := c
  exact ⟨f, h1, h2⟩
theorem QYs.mono {K : PySem.W.Frag} {G G1 H H1 : Hp} {A A1 : List Addr} {S : Sto} {cont : List V → Hp → Prop} {d : D} (e : Ex A G H A1 G1 H1) (h : QYs K G A H cont d S) : QYs K G1 A1 H1 cont d S := by
  obtain ⟨yd, rfl, h⟩ := h
  exact ⟨yd, rfl, fun G' A' H' ys a => h G' A' H' ys (e.trans a)⟩
end
end FL
end
section
set_option Elab.async false
set_option linter.all false
set_option maxRecDepth 100000
set_option autoImplicit false
set_option maxHeartbeats 4000000
namespace FL
open PySem PySem.Spec PyProof.Rows L2 Builtin Builtin.Float
/-! ## fields of a width -/
/-! ## {e:>6}, {e:<8} -/
end FL
end
section
set_option Elab.async false
set_option linter.all false
set_option maxRecDepth 100000
set_option autoImplicit false
set_option maxHeartbeats 4000000
namespace FL
open PySem PySem.Spec PyProof.Rows L2
/-! ## a text some times -/
end FL
end
section
set_option Elab.async false
set_option linter.all false
set_option maxRecDepth 100000
set_option autoImplicit false
set_option maxHeartbeats 4000000
namespace FL
open PySem PySem.Spec PyProof.Rows L2
/-! ## repr of a list whose parts may be lists of the store -/
end FL
end
section
set_option Elab.async false
set_option linter.all false
set_option maxRecDepth 100000
set_option autoImplicit false
set_option maxHeartbeats 4000000
namespace FL
open PySem PySem.Spec PyProof.Rows L2
/-! ## sets of keys of any depth -/
def KeyAt (h : Heap) (k : NestedKey) (b : Addr) : Prop := NestedIs h k (.ref b) ∧ k.depth ≤ 8
theorem KeyAt.keep {h h' : Heap} {k : NestedKey} {b : Addr} (x : KeyAt h k b) (hk : ∀ c o, h.get? c = some o → h'.get? c = some o) : KeyAt h' k b := ⟨NestedIs.at (fun a o _ _ e _ => hk a o e) k _ x.1, x.2⟩
theorem KeyAt.same {h h' : Heap} {k : NestedKey} {a b : Addr} {o : Obj} {es : Array (Int × Value)} {ep : Nat} {t : SetTable} (x : KeyAt h k b) (ho : h.get? a = some o) (hd : o.data = .set es ep t) (hs : Heap.SameBut a h h') : KeyAt h' k b := by
  refine ⟨NestedIs.at (fun c u vs n e d => ?_) k _ x.1, x.2⟩
  by_cases z : c = a
  · subst z
    rw [ho] at e
    cases e
    rw [hd] at d
    cases d
  · exact (hs.2 c z).trans e
end FL
end
section
set_option Elab.async false
set_option linter.all false
set_option maxRecDepth 100000
set_option autoImplicit false
set_option maxHeartbeats 4000000
namespace FL
open PySem PySem.Spec PyProof.Rows L2
/-! ## the table of such a set -/
abbrev KL := List (Addr × NestedKey)
def rowK (w : World) (L : KL) : List (Int × Value) := L.map fun q => (q.2.hash w, Value.ref q.1)
structure SetK (w : World) (h : Heap) (a : Addr) (L : KL) (es : Array (Int × Value)) (ep : Nat) (t : SetTable) : Prop where
  ob : ∃ o, h.get? a = some o ∧ o.ExactSet ∧ o.data = .set es ep t
  rows : es.toList = rowK w L
  tab : TabOk t (L.map fun q => q.2.hash w)
  nd : (L.map (·.2)).Nodup
  key : ∀ q ∈ L, KeyAt h q.2 q.1
  led : w.params.followText "set-order" = true ∨ t.led = true
  room : L.length * 5 < t.mask * 3
  few : L.length < 64
theorem rowK_len {w : World} {L : KL} {es : Array (Int × Value)} (h : es.toList = rowK w L) : es.size = L.length := by
  have q := congrArg List.length h
  simpa [rowK] using q
theorem fits_of {t : SetTable} {n : Nat} (hs : t.place.size = n) (hd : t.dummies = #[]) (hm : n ≤ t.mask) : t.fits n = true := by
  unfold SetTable.fits SetTable.fill
  rw [hd, Bool.and_eq_true, beq_iff_eq, decide_eq_true_eq]
  exact ⟨hs, by show t.place.size + 0 ≤ t.mask; omega⟩
section
variable {w : World} {h : Heap} {a : Addr} {L : KL} {es : Array (Int × Value)} {ep : Nat} {t : SetTable}
theorem SetK.place (R : SetK w h a L es ep t) : t.place.size = L.length := by
  have := R.tab.sz
  rwa [List.length_map] at this
theorem SetK.fits (R : SetK w h a L es ep t) : t.fits es.size = true := by
  have h1 := R.room
  rw [rowK_len R.rows]
  exact fits_of R.place R.tab.dm (by omega)
theorem SetK.keep {h' : Heap} (R : SetK w h a L es ep t) (ha : ∀ o, h.get? a = some o → h'.get? a = some o) (hk : ∀ q ∈ L, KeyAt h' q.2 q.1) : SetK w h' a L es ep t := by
  obtain ⟨o, ho, r⟩ := R.ob
  exact ⟨⟨o, ha o ho, r⟩, R.rows, R.tab, R.nd, hk, R.led, R.room, R.few⟩
end
end FL
end
section
set_option Elab.async false
set_option linter.all false
set_option maxRecDepth 100000
set_option autoImplicit false
set_option maxHeartbeats 4000000
namespace FL
open PySem PySem.Spec PyProof.Rows L2
/-! ## adding to such a set -/
end FL
end
section
set_option Elab.async false
set_option linter.all false
set_option maxRecDepth 100000
set_option autoImplicit false
set_option maxHeartbeats 4000000
namespace FL
open PySem PySem.Spec PyProof.Rows L2
/-! ## set(xs) of such keys, len of it -/
end FL
end
section
set_option Elab.async false
set_option linter.all false
set_option maxRecDepth 100000
set_option autoImplicit false
set_option maxHeartbeats 4000000
namespace FL
open PySem PySem.Spec PyProof.Rows L2
/-! ## len(set(xs)) of a list of tuples, nested -/
/-! ## the set, its length -/
end FL
end
section
set_option Elab.async false
set_option linter.all false
set_option maxRecDepth 100000
set_option autoImplicit false
set_option maxHeartbeats 1000000
/-! Lambdas with names of their own, handed to defs that call them. -/
namespace FL
open PySem PySem.Spec PyProof.Rows L2
/-- a lambda's names: its parameters, captured ones and globals -/
structure LamP (N : List Str) (sc scope : Scope) (ps : List Str) : Prop where
  kind : scope.kind = .function
  co : scope.isCoroutine = false
  gen : scope.isGenerator = false
  noc : ∀ y ∈ scope.names, y.2 ≠ .cell
  own : ∀ y ∈ scope.names, y.2 = .local → y.1 ∈ ps
  free : ∀ y ∈ scope.names, y.2 = .free → sc.names.lookup y.1 = some .cell ∨ sc.names.lookup y.1 = some .free
  par : ∀ p ∈ ps, scope.names.lookup p = some .local
  nd : ps.Nodup
  far : ∀ p ∈ ps, p ∉ N
theorem LamP.has {X : Cx} {scope : Scope} {ps : List Str} (L : LamP X.N X.env.scope scope ps) (ok : X.Ok) : ∀ y ∈ scope.names, y.2 = .free → ∃ c, X.env.cells.lookup y.1 = some c := fun y hy e => ok.has _ (L.free y hy e)
/-! ## what calling it makes -/
/-! ## the lambda is such a function -/
/-! ## a base that knows more -/
end FL
end
section
set_option Elab.async false
set_option linter.all false
set_option maxRecDepth 100000
set_option autoImplicit false
set_option maxHeartbeats 1000000
namespace FL
open PySem PySem.Spec PyProof.Rows L2
/-! ## a def that is handed a function -/
/-! ## g(e, .., lambda) -/
end FL
end
section
set_option Elab.async false
set_option linter.all false
set_option maxRecDepth 100000
set_option autoImplicit false
set_option maxHeartbeats 1000000
namespace FL
open PySem PySem.Spec PyProof.Rows L2
end FL
end
section
set_option Elab.async false
set_option linter.all false
set_option maxRecDepth 100000
set_option autoImplicit false
set_option maxHeartbeats 1000000
namespace FL
open PySem PySem.Spec PyProof.Rows L2
/-! ## g(e, .., h), h a def of the module -/
end FL
namespace FL
open PySem PySem.Spec PyProof.Rows L2
end FL
end
section
set_option Elab.async false
set_option linter.all false
set_option maxRecDepth 100000
set_option autoImplicit false
set_option maxHeartbeats 1000000
namespace FL
open PySem PySem.Spec PyProof.Rows L2
/-! ## < of pairs of a text and an int -/
end FL
end
section
set_option Elab.async false
set_option linter.all false
set_option maxRecDepth 100000
set_option autoImplicit false
set_option maxHeartbeats 2000000
/-! sorted(a tuple of alike data); sorted(xs, key=lambda v: v[0]) -/
namespace FL
open PySem PySem.Spec PyProof.Rows L2 PySem.W PySem.Calls
/-! ## .. by data -/
/-! ## sorted(xs, key=lambda v: v[0]) -/
end FL
end
section
set_option Elab.async false
set_option linter.all false
set_option maxRecDepth 100000
set_option autoImplicit false
set_option maxHeartbeats 1000000
/-! Instances: fields, making one, methods, properties. -/
namespace FL
open PySem PySem.Spec PyProof.Rows L2
/-! ## an instance, and its fields -/
def D.ins? (S : Sto) : D → Option (Str × List (Str × D))
  | .obj C ks ds => some (C, ks.zip ds)
  | .ref n => match S[n]? with
    | some (.ins C fs) => some (C, fs)
    | _ => none
  | _ => none
section
variable {K : PySem.W.Frag} {G H : Hp} {A : List Addr} {S : Sto}
theorem zip_fst {α β : Type} : ∀ {xs : List α} {ys : List β}, xs.length = ys.length → (xs.zip ys).map (·.1) = xs
  | [], [], _ => rfl
  | x :: xs, y :: ys, h => by
    rw [List.zip_cons_cons, List.map_cons, zip_fst (by simpa using h)]
theorem zip_snd {α β : Type} : ∀ {xs : List α} {ys : List β}, xs.length = ys.length → (xs.zip ys).map (·.2) = ys
  | [], [], _ => rfl
  | x :: xs, y :: ys, h => by
    rw [List.zip_cons_cons, List.map_cons, zip_snd (by simpa using h)]
theorem ins_at {v : V} {d : D} {C : Str} {fs : List (Str × D)} (R : Rel K A S G H) (n : Dn K G A v d) (h : d.ins? S = some (C, fs)) :
    ∃ a dx vs, v = .ref a ∧ H a = some (.ins (He.ga K C) dx ((fs.map (·.1)).zip vs)) ∧ DnAll K G A vs (fs.map (·.2)) := by
  cases n with
  | @obj a dx C' ks vs ds e l t =>
    simp only [D.ins?, Option.some.injEq, Prod.mk.injEq] at h
    obtain ⟨rfl, rfl⟩ := h
    have l2 : ks.length = ds.length := by rw [l, t.length]
    rw [zip_fst l2, zip_snd l2]
    exact ⟨a, dx, vs, rfl, R.sub _ _ e, t⟩
  | @ref m a e =>
    have h : (match S[m]? with | some (.ins C fs) => some (C, fs) | _ => none : Option (Str × List (Str × D))) = some (C, fs) := h
    cases hs : S[m]? with
    | none => rw [hs] at h; cases h
    | some o =>
      rw [hs] at h
      cases o with
      | ins C' fs' =>
        cases h
        obtain ⟨dx, vs, e1, t⟩ := R.ob m a _ e hs
        exact ⟨a, dx, vs, rfl, e1, t⟩
      | _ => cases h
  | _ => cases h
theorem look_zip {K : PySem.W.Frag} {G : Hp} {A : List Addr} {f : Str} {d : D} : ∀ {fs : List (Str × D)} {vs : List V}, DnAll K G A vs (fs.map (·.2)) → fs.lookup f = some d → ∃ v, ((fs.map (·.1)).zip vs).lookup f = some v ∧ Dn K G A v d
  | [], _, _, h => by cases h
  | (g, e) :: fs, _, .cons (v := v) a b, h => by
    rw [List.map_cons, List.zip_cons_cons, List.lookup_cons]
    rw [List.lookup_cons] at h
    cases z : f == g with
    | true =>
      rw [z] at h
      cases h
      exact ⟨v, rfl, a⟩
    | false =>
      rw [z] at h
      exact look_zip b h
/-- a field stored -/
def putFD (f : Str) (d : D) : List (Str × D) → List (Str × D)
  | [] => [(f, d)]
  | (g, x) :: r => if g = f then (g, d) :: r else (g, x) :: putFD f d r
theorem putFD_rel {f : Str} {d : D} {v : V} (n : Dn K G A v d) : ∀ {fs : List (Str × D)} {vs : List V}, DnAll K G A vs (fs.map (·.2)) → ∃ ws, putF f v ((fs.map (·.1)).zip vs) = ((putFD f d fs).map (·.1)).zip ws ∧ DnAll K G A ws ((putFD f d fs).map (·.2))
  | [], _, .nil => ⟨[v], rfl, .cons n .nil⟩
  | (g, x) :: fs, _, .cons (v := w) (vs := vs) a b => by
    by_cases h : g = f
    · refine ⟨v :: vs, ?_, ?_⟩
      · simp only [List.map_cons, List.zip_cons_cons, putF, putFD, if_pos h]
      · simp only [putFD, if_pos h, List.map_cons]
        exact .cons n b
    · obtain ⟨ws, e, t⟩ := putFD_rel (f := f) n b
      refine ⟨w :: ws, ?_, ?_⟩
      · simp only [List.map_cons, List.zip_cons_cons, putF, putFD, if_neg h, e]
      · simp only [putFD, if_neg h, List.map_cons]
        exact .cons a t
end
/-! ## e.f -/
def eFld (tb : List Str) (f : Str) (fa : FEx) : FEx := fun r => bnd (fa r) fun x => fun S => match x.ins? S with
  | some (C, fs) => if tb.contains C = true then opt (fs.lookup f) S else .no
  | none => .no
section
variable {X : Cx} {EE : XK}
theorem fe_fld {tb : List Str} {f : Str} {e : Expr} {fa : FEx} {pos : Pos} (hc : ∀ C ∈ tb, Cls X.K (He.ga X.K C) ∧ NoAttr X.K (He.ga X.K C) f) (ha : FE X EE e fa) (hb : attributeBase e f X.env (eval e X.env) = eval e X.env := by rfl) :
    FE X EE (.Attribute e f pos) (eFld tb f fa) := by
  refine pe_weak (pe_fld ha hb) fun s H Q ⟨r, G, A, S, hr, hR, q⟩ => ?_
  refine re_bnd hr hR q (fun _ _ z => z) fun G1 A1 H1 x d S1 a1 r1 R1 n1 q1 => ?_
  have q1 : (match d.ins? S1 with | some (C, fs) => if tb.contains C = true then opt (fs.lookup f) S1 else .no | none => .no : R D).post (QV X.K G A H Q) (QE X.K X.mg EE G A H) := q1
  cases hi : d.ins? S1 with
  | none => rw [hi] at q1; exact q1.elim
  | some p =>
    obtain ⟨C, fs⟩ := p
    rw [hi] at q1
    by_cases ht : tb.contains C = true
    · simp only [if_pos ht] at q1
      rw [post_opt] at q1
      obtain ⟨y, hy, q1⟩ := q1
      obtain ⟨c1, c2⟩ := hc C (List.contains_iff_mem.mp ht)
      obtain ⟨a, dx, vs, rfl, e1, t⟩ := ins_at R1 n1 hi
      obtain ⟨v, hv, nv⟩ := look_zip t hy
      exact ⟨a, _, dx, _, v, rfl, e1, c1, c2, hv, q1 G1 A1 H1 v a1 R1 nv⟩
    · simp only [if_neg ht] at q1
      exact q1.elim
/-- o.f = e, o one that still changes -/
def sFldM (tb : List Str) (f : Str) (fo fe : FEx) : FSx := fun r => bnd (fe r) fun d => bnd (fo r) fun x => fun S => match x with
  | .ref n => match S[n]? with
    | some (.ins C fs) => if tb.contains C = true ∧ fs.length < 1000 then .ok (.nx r) (S.set n (.ins C (putFD f d fs))) else .no
    | _ => .no
  | _ => .no
theorem fs_fld {tb : List Str} {f : Str} {o value : Expr} {fo fe : FEx} {pos pos' : Pos} (hc : ∀ C ∈ tb, Cls X.K (He.ga X.K C) ∧ NoAttr X.K (He.ga X.K C) f) (ho : FE X EE o fo) (hv : FE X EE value fe)
    (hs : swapsWith value (some (.Attribute o f pos')) pos.line X.env = pure false := by rfl) : FS X EE (.Assign [.Attribute o f pos'] value pos) (sFldM tb f fo fe) := by
  refine ps_weak (ps_fld ho hv hs) fun T s H ⟨r, G, A, S, hr, hR, q⟩ => ?_
  refine re_bnd hr hR q (fun _ _ z => z) fun G1 A1 H1 x d S1 a1 r1 R1 n1 q1 => ?_
  refine re_bnd r1 R1 q1 (fun _ _ z => z.mono a1) fun G2 A2 H2 y e S2 a2 r2 R2 n2 q2 => ?_
  cases e with
  | ref m =>
    have q2 : (match S2[m]? with | some (.ins C fs) => if tb.contains C = true ∧ fs.length < 1000 then R.ok (.nx r) (S2.set m (.ins C (putFD f d fs))) else .no | _ => .no : R Fl).post (QF X.K G A H T) (QE X.K X.mg EE G A H) := q2
    cases hs2 : S2[m]? with
    | none => rw [hs2] at q2; exact q2.elim
    | some ob =>
      rw [hs2] at q2
      cases ob with
      | ins C fs =>
        by_cases ht : tb.contains C = true ∧ fs.length < 1000
        · simp only [if_pos ht] at q2
          cases n2 with
          | @ref _ a ea =>
          obtain ⟨dx, vs, e1, t⟩ := R2.ob m a _ ea hs2
          obtain ⟨c1, c2⟩ := hc C (List.contains_iff_mem.mp ht.1)
          have n1' := n1.mono a2.g a2.p
          obtain ⟨ws, e3, t3⟩ := putFD_rel (f := f) n1' t
          have lz : ((fs.map (·.1)).zip vs).length < 1000 := by
            rw [List.length_zip, List.length_map]
            have := ht.2
            omega
          refine ⟨a, _, dx, _, rfl, e1, c1, c2, lz, ?_⟩
          have R3 := R2.write (o := .ins (He.ga X.K C) dx (putF f x ((fs.map (·.1)).zip vs))) (b := .ins C (putFD f d fs)) ea (by rw [hs2]; exact fun z => by cases z) ⟨dx, ws, by rw [upd_same, e3], t3⟩
          exact q2 G2 A2 _ s ((a1.trans a2).trans (R2.exWrite (List.mem_of_getElem? ea) _)) R3 r2
        · simp only [if_neg ht] at q2
          exact q2.elim
      | _ => exact q2.elim
  | _ => exact q2.elim
end
end FL
end
section
set_option Elab.async false
set_option linter.all false
set_option maxRecDepth 100000
set_option autoImplicit false
set_option maxHeartbeats 1000000
namespace FL
open PySem PySem.Spec PyProof.Rows L2
/-! ## the guards of what is shown, below a built-in -/
class GdsI [Gds] : Prop where
  in1 : ∀ B : Around, Gds.gd B → Gds.gd B.in1
  tc : ∀ (B : Around) (C : Addr) (us : List Value) (kw : List (Str × Value)), Gds.gd B → Gds.gd (B.under (.builtin "type.__call__" ⟨.ref C :: us, kw⟩))
instance gdsI0 : @GdsI gds0 := @GdsI.mk gds0 (fun B h => h) fun B C us kw h => by
  have h : B.guards = some [] := h
  show (B.under (.builtin "type.__call__" ⟨.ref C :: us, kw⟩)).guards = some []
  first | exact h | simpa [Around.under, Code.guards, pushGuards] using h
instance gdsIN : @GdsI gdsN := @GdsI.mk gdsN (fun _ _ => trivial) fun _ _ _ _ _ => trivial
/-! ## arguments -/
/-- what is called is kept -/
def Kp (X : Cx) (f : Value) (PH : Heap → Prop) : Prop := ∀ h, PH h → ∃ k, (k = Keeper.frame ∨ k = Keeper.machine ∨ k = Keeper.boundFrame) ∧ PySem.W.Looks (model X.prog X.w) h (keeperOf f) k
structure ArgsR (X : Cx) (EE : XK) (pos : Pos) (args : List Expr) (kws : List Keyword) (ks : List Str) (fa fk : FAx) : Prop where
  runP : ∀ (PH : Heap → Prop) (f : Value) (first : List Value) (pins : List (Addr × Obj)) (s : Shared) (σ : L2.St) (H : Hp) (W : Value → Shared → Prop) (P : List V → List V → Hp → Prop), Kp X f PH → (∀ (H' : Hp) (s' : Shared), Inv X pins σ H' s' → PH s'.heap) → Inv X pins σ H s →
    RA X EE fa σ H (fun vs H1 => RA X EE fk σ H1 fun zs H2 => P vs zs H2) →
    (∀ (us ws : List Value) (vs zs : List V) (H1 : Hp) (s1 : Shared), Inv X pins σ H1 s1 → Vals vs us → Vals zs ws → P vs zs H1 → wpAny (model X.prog X.w) X.A (call f (first ++ us) (ks.zip ws)) W X.xe s1) →
    wpAny (model X.prog X.w) X.A (callWith pos f first (backTo pos (starEach args X.env)) (backToKw pos (keywordEach kws X.env))) W X.xe s
theorem ArgsR.run {X : Cx} {EE : XK} {pos : Pos} {args : List Expr} {kws : List Keyword} {ks : List Str} {fa fk : FAx} (a : ArgsR X EE pos args kws ks fa fk) (f : Value) (first : List Value) (pins : List (Addr × Obj)) (s : Shared) (σ : L2.St) (H : Hp) (W : Value → Shared → Prop) (P : List V → List V → Hp → Prop) (hk : PySem.W.keepIn X.K f = true) (I : Inv X pins σ H s)
    (q : RA X EE fa σ H (fun vs H1 => RA X EE fk σ H1 fun zs H2 => P vs zs H2))
    (fin : ∀ (us ws : List Value) (vs zs : List V) (H1 : Hp) (s1 : Shared), Inv X pins σ H1 s1 → Vals vs us → Vals zs ws → P vs zs H1 → wpAny (model X.prog X.w) X.A (call f (first ++ us) (ks.zip ws)) W X.xe s1) :
    wpAny (model X.prog X.w) X.A (callWith pos f first (backTo pos (starEach args X.env)) (backToKw pos (keywordEach kws X.env))) W X.xe s :=
  a.runP X.K.In f first pins s σ H W P (PySem.W.keeps_K hk) (fun _ _ I' => I'.kIn) I q fin
theorem ra_nil {X : Cx} {EE : XK} {σ : L2.St} {H : Hp} {Q : List V → Hp → Prop} (q : RA X EE aNil σ H Q) : Q [] H := by
  obtain ⟨r, G, A, S, hr, hR, q⟩ := q
  exact q G A H [] Ex.refl hR .nil
section
variable {X : Cx} {EE : XK} {pos : Pos} {e : Expr} {es : List Expr} {kws : List Keyword} {ks : List Str} {fa fk : FAx}
theorem args_1 (ha : FA X EE (e :: es) fa) (he : starEach (e :: es) X.env = (false, eval e X.env) :: starEach es X.env := by rfl) (hpl : (backTo pos (starEach es X.env)).any (·.1) = false := by rfl) : ArgsR X EE pos (e :: es) [] [] fa aNil := by
  refine ⟨fun PH f first pins s σ H W P hk hP I q fin => ?_⟩
  have h := thn (ha.run pos pins s σ H _ I q) (fun us s1 ⟨vs, H1, I1, rv, q1⟩ => (⟨hP _ _ I1, fin us [] vs [] H1 s1 I1 rv .nil (ra_nil q1)⟩ : PH s1.heap ∧ wpAny (model X.prog X.w) X.A (call f (first ++ us)) W X.xe s1))
  show wpAny (model X.prog X.w) X.A (callWith pos f first (backTo pos (starEach (e :: es) X.env)) []) W X.xe s
  rw [he] at h ⊢
  exact PySem.W.callWith_of (by show ((false || (backTo pos (starEach es X.env)).any (·.1)) || false) = false; rw [hpl]; rfl) hk (PySem.Calls.evalArgs_plain h)
theorem args_0 : ArgsR X EE pos [] [] [] aNil aNil :=
  ⟨fun PH f first pins s σ H W P hk hP I q fin => PySem.W.callWith_of rfl hk (evalArgs_nil3 ⟨hP _ _ I, fin [] [] [] [] H s I .nil .nil (ra_nil (ra_nil q))⟩)⟩
theorem args_k0 (hkw : FK X EE kws fk) (hall : (backToKw pos (keywordEach kws X.env)).all (·.1.isSome) = true := by rfl) (hks : (backToKw pos (keywordEach kws X.env)).filterMap (·.1) = ks := by rfl)
    (hpl : ((backTo pos (starEach [] X.env)).any (·.1) || (backToKw pos (keywordEach kws X.env)).any (·.1.isNone)) = false := by rfl) : ArgsR X EE pos [] kws ks aNil fk := by
  refine ⟨fun PH f first pins s σ H W P hk hP I q fin => PySem.W.callWith_of hpl hk (evalArgs_kw2_nil hall (thn (hkw.run pos pins s σ H _ I (ra_nil q)) fun ws s2 ⟨zs, H2, I2, rz, q2⟩ => ⟨hP _ _ I2, ?_⟩))⟩
  rw [hks]
  exact fin [] ws [] zs H2 s2 I2 .nil rz q2
theorem args_bnd {σ : L2.St} {H : Hp} {Q : VK} {r : Env} {G : Hp} {A : List Addr} {S : Sto} {k : List D → List D → M D} (hr : EnvR X.K G A σ r) (hR : Rel X.K A S G H) (q : (bnd (fa r) (fun ds => bnd (fk r) fun es => k ds es) S).post (QV X.K G A H Q) (QE X.K X.mg EE G A H)) :
    RA X EE fa σ H (fun vs H1 => RA X EE fk σ H1 fun zs H2 => ∃ G2 A2 S2 ds es, Ex A G H A2 G2 H2 ∧ Rel X.K A2 S2 G2 H2 ∧ DnAll X.K G2 A2 vs ds ∧ DnAll X.K G2 A2 zs es ∧ (k ds es S2).post (QV X.K G2 A2 H2 Q) (QE X.K X.mg EE G2 A2 H2)) := by
  refine ra_bnd hr hR q (fun _ _ z => z) fun G1 A1 H1 vs ds S1 a1 r1 R1 n1 q1 => ?_
  refine ra_bnd r1 R1 q1 (fun _ _ z => z.mono a1) fun G2 A2 H2 zs es S2 a2 r2 R2 n2 q2 => ?_
  exact ⟨G2, A2, S2, ds, es, a1.trans a2, R2, n1.mono a2.g a2.p, n2, q2.mono (fun _ _ z => z.mono (a1.trans a2)) fun _ _ z => z.mono (a1.trans a2)⟩
end
/-! ## C(e, ..): a new instance, which never changes behind its __init__ -/
open Classical in
noncomputable def cutI (S : Sto) (C : Str) : R D → R D
  | .ok .non S' => if S'.length = S.length + 1 ∧ Kept S S' then (match S'[S.length]? with
    | some (.ins C' fs) => if C' = C ∧ D.ltAll S.length (fs.map (·.2)) = true then .ok (.obj C (fs.map (·.1)) (fs.map (·.2))) (S'.take S.length) else .no
    | _ => .no) else .no
  | .ok _ _ => .no
  | .ex x S' => cutX S x S'
  | .no => .no
noncomputable def eMake (C : Str) (n m : Nat) (g : List D → List D → List D) (F : List D → M D) (fa fk : FAx) : FEx := fun r => bnd (fa r) fun ds => bnd (fk r) fun es => fun S =>
  if ds.length = n ∧ es.length = m then cutI S C (F (g (.ref S.length :: ds) es) (S ++ [.ins C []])) else .no
section
variable [Gds]
structure MakD (P : Program) (w : World) (K : PySem.W.Frag) (mg : Str → Option Value) (base : Heap) (CX : CXT) (k : Nat) (C : Str) (n : Nat) (ks : List Str) (g : List D → List D → List D) (F : List D → M D) : Prop where
  ex : ∃ (f : Addr) (fd : FuncData) (ps : List Str), FnD P w K mg base CX k f fd ps F ∧ L2.Mk K (He.ga K C) f ∧ mg C = some (.ref (He.ga K C)) ∧ BdD K fd ps (n + 1) ks g
variable [GdsI] {X : Cx} {EE : XK} {CX : CXT} {k j n : Nat} {C : Str} {ks : List Str} {g : List D → List D → List D} {F : List D → M D}
theorem run_mak (c : MakD X.prog X.w X.K X.mg X.base CX k C n ks g F) (hr : Room (k + 1) X.A) (hgd : Gds.gd X.A) (hx : Passes CX X EE) {pins : List (Addr × Obj)} {σ : L2.St} {H : Hp} {s : Shared} {Q : VK} {us ws : List Value} {vs zs : List V} {G : Hp} {A : List Addr} {S : Sto} {ds es : List D}
    (I : Inv X pins σ H s) (r : Vals vs us) (rz : Vals zs ws) (R : Rel X.K A S G H) (t : DnAll X.K G A vs ds) (tz : DnAll X.K G A zs es) (h1 : ds.length = n) (h2 : es.length = ks.length) (q : (cutI S C (F (g (.ref S.length :: ds) es) (S ++ [.ins C []]))).post (QV X.K G A H Q) (QE X.K X.mg EE G A H)) :
    wpAny (model X.prog X.w) X.A (call (.ref (He.ga X.K C)) us (ks.zip ws)) (EP X pins σ Q) X.xe s := by
  obtain ⟨f, fd, ps, hF, M, _, gU, gV, b1, b2, b3, b4⟩ := c
  have I2 := Inv.made (C := He.ga X.K C) I
  have f1 : H (s.heap.objs.size + 1) = none := I.hok.fresh (Nat.le_succ _)
  have f2 : H s.heap.objs.size = none := I.hok.fresh (Nat.le_refl _)
  have ne : s.heap.objs.size + 1 ≠ s.heap.objs.size := Nat.succ_ne_self _
  generalize hdx : s.heap.objs.size = dx at *
  generalize hx' : dx + 1 = x at *
  have R1 : Rel X.K A S G (upd H dx (.own x)) := R.beside (R.free f2) (R.notin f2) _
  have f3 : upd H dx (.own x) x = none := by rw [upd_ne ne]; exact f1
  have R2 : Rel X.K (A ++ [x]) (S ++ [.ins C []]) G (upd (upd H dx (.own x)) x (.ins (He.ga X.K C) dx [])) := R1.alloc f3 ⟨dx, [], by rw [upd_same]; rfl, .nil⟩
  have e2 : Ex A G H (A ++ [x]) G (upd (upd H dx (.own x)) x (.ins (He.ga X.K C) dx [])) := (Ex.refl.beside f2 _).trans (R1.exAlloc f3 _)
  have ax : (A ++ [x])[S.length]? = some x := by rw [← R.len]; simp
  have t2 : DnAll X.K G (A ++ [x]) (.ref x :: vs) (.ref S.length :: ds) := .cons (.ref ax) (t.mono e2.g e2.p)
  have r2 : Vals (V.ref x :: vs) (Value.ref x :: us) := .cons rfl r
  have l1 : (V.ref x :: vs).length = n + 1 := by rw [List.length_cons, t.length, h1]
  have l2 : zs.length = ks.length := tz.length.trans h2
  have post : (F (g (.ref S.length :: ds) es) (S ++ [.ins C []])).post (QV X.K G (A ++ [x]) (upd (upd H dx (.own x)) x (.ins (He.ga X.K C) dx [])) (fun v H2 => v = .non ∧ Q (.ref x) H2)) (QE X.K X.mg EE G (A ++ [x]) (upd (upd H dx (.own x)) x (.ins (He.ga X.K C) dx []))) := by
    generalize F (g (.ref S.length :: ds) es) (S ++ [.ins C []]) = m at *
    cases m with
    | no => exact q.elim
    | ex y S' => exact fun G' A' H' c dy e1 R' n1 => cutX_post R (e2.trans e1) R' n1 q
    | ok d S' =>
      cases d with
      | non =>
        intro G' A' H' v e1 R' nv
        cases nv
        refine ⟨rfl, ?_⟩
        unfold cutI at q
        dsimp only at q
        split at q
        · rename_i hk
          cases hs : S'[S.length]? with
          | none => rw [hs] at q; exact q.elim
          | some ob =>
            rw [hs] at q
            cases ob with
            | ins C' fs =>
              by_cases hc : C' = C ∧ D.ltAll S.length (fs.map (·.2)) = true
              · simp only [if_pos hc] at q
                obtain ⟨rfl, hl⟩ := hc
                have e3 := e2.trans e1
                have ea : A'[S.length]? = some x := e1.p _ _ ax
                obtain ⟨dy, vs', ev, tv⟩ := R'.ob _ x _ ea hs
                have hp := pre_take e3.p
                have Rc := R.cut e3 R' hk.2
                have hG : G' x = none := R'.dis _ x ea (by rw [hs]; exact fun z => by cases z)
                have hnA : x ∉ A := R.notin f1
                have tc := DnAll.cut hp _ _ tv (by rw [R.len]; exact hl)
                exact q _ A H' (.ref x) (e3.cut.freeze f1 hG _) (Rc.freeze hG hnA ev) (.obj upd_same (by rw [List.length_map, tv.length, List.length_map]) (tc.mono (upd_same_of hG) (Pre.refl _)))
              · simp only [if_neg hc] at q
                exact q.elim
            | _ => exact q.elim
        · exact q.elim
      | _ => exact q.elim
  refine wpAny_call (make_map (f := f) I.kIn M.makes M.init (beq_iff_eq.mp M.fn) ?_)
  rw [hdx, hx']
  refine codeAny_mono (hF _ X.stack _ _ ⟨Value.ref x :: us, ks.zip ws⟩ (gU (Value.ref x :: us) ws) (gV (V.ref x :: vs) zs) _ EE G (A ++ [x]) (S ++ [.ins C []]) _ (hr.make (He.ga X.K C) us (ks.zip ws)) (GdsI.tc _ _ _ _ hgd)
    (I2.env0.make (He.ga X.K C) us (ks.zip ws)) (b1 _ _ _ I2.kIn (by rw [← r2.length, l1]) (by rw [← rz.length, l2])) (b2 _ _ _ _ l1 l2 r2 rz) (b4 _ _ l1 l2) R2 (b3 G _ _ _ _ _ l1 l2 t2 (tz.mono e2.g e2.p)) post) fun o s' hq => ?_
  cases o with
  | error u => exact hx pins σ _ _ u s' I2 hq
  | ok fl =>
    cases fl with
    | ret u =>
      obtain ⟨v, H', I3, rv, ev, q3⟩ := I2.after hq
      subst ev
      exact ⟨rv, ⟨V.ref x, H', I3, rfl, q3⟩⟩
    | next => exact hq.elim
    | brk => exact hq.elim
    | cont => exact hq.elim
theorem fe_make {pos p : Pos} {args : List Expr} {kws : List Keyword} {fa fk : FAx} (c : MakD X.prog X.w X.K X.mg X.base CX k C n ks g F) (hr : Room j X.A) (hk : k + 1 ≤ j) (hgd : Gds.gd X.A) (hg : Gl X C) (hx : Passes CX X EE) (ha : ArgsR X EE pos args kws ks fa fk)
    (hdb : (C == ("__debug__" : Str)) = false := by decide) : FE X EE (.Call (.Name C p) args kws pos) (eMake C n ks.length g F fa fk) := by
  refine ⟨fun pins s σ H Q I ⟨r, G, A, S, hr0, hR, q⟩ => ?_⟩
  obtain ⟨_, _, _, _, M, hm, _⟩ := c.ex
  refine wpAny_Call_Name_kw (ld_glob I hg hm ?_ hdb)
  refine ha.run _ [] pins s σ H _ _ M.kp I (args_bnd hr0 hR q) fun us ws vs zs H1 s1 I1 rv rz ⟨G2, A2, S2, ds, es, a2, R2, t, tz, q2⟩ => ?_
  have q2 : (if ds.length = n ∧ es.length = ks.length then cutI S2 C (F (g (.ref S2.length :: ds) es) (S2 ++ [.ins C []])) else .no : R D).post (QV X.K G2 A2 H1 Q) (QE X.K X.mg EE G2 A2 H1) := q2
  split at q2
  · rename_i hl
    exact run_mak c (hr.mono hk) hgd hx I1 rv rz R2 t tz hl.1 hl.2 q2
  · exact q2.elim
end
end FL
end
section
set_option Elab.async false
set_option linter.all false
set_option maxRecDepth 100000
set_option autoImplicit false
set_option maxHeartbeats 1000000
namespace FL
open PySem PySem.Spec PyProof.Rows L2
/-! ## methods -/
section
variable [Gds]
structure MetD (P : Program) (w : World) (K : PySem.W.Frag) (mg : Str → Option Value) (base : Heap) (CX : CXT) (k : Nat) (C m : Str) (n : Nat) (ks : List Str) (g : List D → List D → List D) (F : List D → M D) : Prop where
  ex : ∃ (f : Addr) (fd : FuncData) (ps : List Str), FnD P w K mg base CX k f fd ps F ∧ Cls K (He.ga K C) ∧ L2.Meth K (He.ga K C) m f ∧ PySem.W.fnIn K f = true ∧ BdD K fd ps (n + 1) ks g
structure PrpD (P : Program) (w : World) (K : PySem.W.Frag) (mg : Str → Option Value) (base : Heap) (CX : CXT) (k : Nat) (C m : Str) (F : List D → M D) : Prop where
  ex : ∃ (p f : Addr) (fd : FuncData) (ps : List Str), FnD P w K mg base CX k f fd ps F ∧ Cls K (He.ga K C) ∧ L2.PropOf K (He.ga K C) m p f ∧ BdD K fd ps 1 [] gAll
section
variable {X : Cx} {EE : XK} {CX : CXT} {k j n : Nat} {ks ps : List Str} {g : List D → List D → List D} {F : List D → M D} {f : Addr} {fd : FuncData}
/-- a def runs, below what is around -/
theorem run_met {B : Around} (hF : FnD X.prog X.w X.K X.mg X.base CX k f fd ps F) (b : BdD X.K fd ps n ks g) (hr : Room k B) (hgd : Gds.gd B) {pins : List (Addr × Obj)} {σ : L2.St} {H : Hp} {s : Shared} {Q : VK} {us ws : List Value} {vs zs : List V} {G : Hp} {A : List Addr} {S : Sto} {ds es : List D} {xe : Value → Shared → Prop}
    (e0 : Env0 X.prog X.w X.K X.mg X.base B X.stack s H) (hx : ∀ e s', CX X.stack H s EE e s' → xe e s') (I : Inv X pins σ H s) (r : Vals vs us) (rz : Vals zs ws) (R : Rel X.K A S G H) (t : DnAll X.K G A vs ds) (tz : DnAll X.K G A zs es) (h1 : ds.length = n) (h2 : es.length = ks.length)
    (q : (F (g ds es) S).post (QV X.K G A H Q) (QE X.K X.mg EE G A H)) :
    codeAny (model X.prog X.w) B (.call (.ref f) ⟨us, ks.zip ws⟩) (fun r s' => match r with | .ok (.ret v) => EP X pins σ Q v s' | .ok _ => False | .error e => xe e s') s := by
  obtain ⟨gU, gV, b1, b2, b3, b4⟩ := b
  have l1 : vs.length = n := t.length.trans h1
  have l2 : zs.length = ks.length := tz.length.trans h2
  refine codeAny_mono (hF B X.stack s H ⟨us, ks.zip ws⟩ (gU us ws) (gV vs zs) Q EE G A S (g ds es) hr hgd e0 (b1 s us ws I.kIn (r.length.symm.trans l1) (rz.length.symm.trans l2)) (b2 _ _ _ _ l1 l2 r rz) (b4 _ _ l1 l2) R (b3 G A _ _ _ _ l1 l2 t tz) q) fun o s' hq => ?_
  cases o with
  | error u => exact hx u s' hq
  | ok fl =>
    cases fl with
    | ret u => exact I.after hq
    | next => exact hq.elim
    | brk => exact hq.elim
    | cont => exact hq.elim
variable {tb : List (Str × (List D → M D))} {m : Str} {o : Expr} {args : List Expr} {kws : List Keyword} {fo : FEx} {fa fk : FAx} {pos apos : Pos}
/-! ## o.f, f a property of some of the classes, a field of the others -/
def eAttrM (tbP : List (Str × (List D → M D))) (tbF : List Str) (f : Str) (fo : FEx) : FEx := fun r => bnd (fo r) fun x => fun S => match x.ins? S with
  | some (C, fs) => (match tbP.lookup C with
    | some F => F [x] S
    | none => if tbF.contains C = true then opt (fs.lookup f) S else .no)
  | none => .no
theorem fe_attr {f : Str} {e : Expr} {tbP : List (Str × (List D → M D))} {tbF : List Str} [GdsI] (hP : ∀ p ∈ tbP, PrpD X.prog X.w X.K X.mg X.base C8.CX0 k p.1 f p.2) (hF : ∀ C ∈ tbF, Cls X.K (He.ga X.K C) ∧ NoAttr X.K (He.ga X.K C) f) (hr : Room j X.A) (hk : k + 1 ≤ j) (hgd : Gds.gd X.A) (ho : FE X EE e fo)
    (hab : attributeBase e f X.env (eval e X.env) = eval e X.env := by rfl) : FE X EE (.Attribute e f pos) (eAttrM tbP tbF f fo) := by
  refine ⟨fun pins s σ H Q I ⟨r, G, A, S, hr0, hR, q⟩ => ?_⟩
  refine attr_of hab (thn (ho.run pins s σ H (fun x H1 => ∃ G1 A1 S1 d, Rel X.K A1 S1 G1 H1 ∧ Dn X.K G1 A1 x d ∧ (match d.ins? S1 with
    | some (C, fs) => (match tbP.lookup C with
      | some F => F [d] S1
      | none => if tbF.contains C = true then opt (fs.lookup f) S1 else .no)
    | none => .no : FL.R D).post (QV X.K G1 A1 H1 Q) (QE X.K X.mg EE G1 A1 H1)) I ?_) fun u s1 ⟨x, H1, I1, rx, G1, A1, S1, d, R1, n1, q1⟩ => ?_)
  · refine re_bnd hr0 hR q (fun _ _ z => z) fun G1 A1 H1 v d S1 a1 r1 R1 n1 q1 => ?_
    exact ⟨G1, A1, S1, d, R1, n1, FL.R.post.mono q1 (fun _ _ z => z.mono a1) fun _ _ z => z.mono a1⟩
  · cases hi : d.ins? S1 with
    | none => rw [hi] at q1; exact q1.elim
    | some p =>
      obtain ⟨C, fs⟩ := p
      rw [hi] at q1
      obtain ⟨a, dx, vs, rfl, e1, t⟩ := ins_at R1 n1 hi
      obtain rfl : u = Value.ref a := rx
      cases hl : tbP.lookup C with
      | none =>
        simp only [hl] at q1
        by_cases ht : tbF.contains C = true
        · simp only [if_pos ht] at q1
          rw [post_opt] at q1
          obtain ⟨y, hy, q1⟩ := q1
          obtain ⟨c1, c2⟩ := hF C (List.contains_iff_mem.mp ht)
          obtain ⟨v, hv, nv⟩ := look_zip t hy
          exact getattr_ok I1 e1 c1 c2 hv fun u' s2 I2 ru => ⟨v, H1, I2, ru, q1 G1 A1 H1 v Ex.refl R1 nv⟩
        · simp only [if_neg ht] at q1
          exact q1.elim
      | some F =>
        simp only [hl] at q1
        obtain ⟨p, g, fd, ps, hF', c, hp, b⟩ := (hP _ (PySem.mem_of_lookup hl)).ex
        obtain ⟨mA, O, _, _, _, _⟩ := ins_get I1.hok e1
        obtain ⟨od, J, _⟩ := O.look
        obtain ⟨rest, hrec⟩ := hp.rec_
        have I2 := I1.tok (s1.toks + 1)
        have hcl : (PySem.W.clsIn X.K (He.ga X.K C)).isSome = true := by
          obtain ⟨cd, hc, _⟩ := PySem.W.any_some c.hd
          rw [hc]
          rfl
        have hr1 : Room (k + 1) X.A := hr.mono hk
        refine PySem.W.get_bind I1.kIn J (PySem.W.plainGet_of (c.get f)).1 (PySem.W.findObj_data hcl hp.at_ hp.get hp.tak) (PySem.W.plainGet_of (c.get f)).2 (wpAny_call (PySem.W.prop_get (s := { s1 with toks := s1.toks + 1 }) I1.kIn hrec ?_))
        refine codeAny_mono (run_met (CX := C8.CX0) (xe := fun _ _ => False) hF' b hr1.in1 (GdsI.in1 _ hgd) (us := [.ref a]) (ws := []) (vs := [.ref a]) (zs := []) (ds := [d]) (es := []) I2.env0.in1 (fun e s' z => z) I2 (.cons rfl .nil) .nil R1 (.cons n1 .nil) .nil rfl rfl q1) fun r s' hq => ?_
        cases r with
        | error er => exact False.elim hq
        | ok fl =>
          cases fl with
          | ret u =>
            obtain ⟨v, H', I3, rv, q3⟩ := hq
            show wpAny _ _ (handedOut u) _ _ _
            rw [PySem.W.handedOut_of (handed_of rv)]
            exact wpAny_pure ⟨v, H', I3, rv, q3⟩
          | next => exact False.elim hq
          | brk => exact False.elim hq
          | cont => exact False.elim hq
end
end
end FL
end
section
set_option Elab.async false
set_option linter.all false
set_option maxRecDepth 100000
set_option autoImplicit false
set_option maxHeartbeats 1000000
namespace FL
open PySem PySem.Spec PyProof.Rows L2
/-! ## operations that may be defs of a class -/
def rM2 (X : Cx) (EE : XK) (h : D → D → M D) : R2 := fun x y H Q => ∃ G A S d e, Rel X.K A S G H ∧ Dn X.K G A x d ∧ Dn X.K G A y e ∧ (h d e S).post (QV X.K G A H Q) (QE X.K X.mg EE G A H)
def eBinM (h : D → D → M D) (fa fb : FEx) : FEx := fun r => bnd (fa r) fun x => bnd (fb r) fun y => h x y
section
variable {X : Cx} {EE : XK} {a b : Expr} {fa fb : FEx} {pos : Pos} {h : D → D → M D}
theorem to_binM : ∀ s H Q, RE X EE (eBinM h fa fb) s H Q → tOp (rM2 X EE h) (RE X EE fa) (RE X EE fb) s H Q := by
  intro s H Q ⟨r, G, A, S, hr, hR, q⟩
  refine re_bnd hr hR q (fun _ _ z => z) fun G1 A1 H1 x d S1 a1 r1 R1 n1 q1 => ?_
  refine re_bnd r1 R1 q1 (fun _ _ z => z.mono a1) fun G2 A2 H2 y e S2 a2 r2 R2 n2 q2 => ?_
  exact ⟨G2, A2, S2, d, e, R2, n1.mono a2.g a2.p, n2, q2.mono (fun _ _ z => z.mono (a1.trans a2)) fun _ _ z => z.mono (a1.trans a2)⟩
theorem fe_cmpM {op : CmpOp} (ho : OpR X (compareOp op) (rM2 X EE h)) (ha : FE X EE a fa) (hb : FE X EE b fb) (hm : behindInMarks op b = false := by first | exact nomark _ | rfl) : FE X EE (.Compare a [op] [b] pos) (eBinM h fa fb) := pe_weak (pe_cmpR ho ha hb hm) to_binM
theorem to_testM : ∀ s H Q, RT X EE (asB (eBinM h fa fb)) s H Q → tTest (tOp (rM2 X EE h) (RE X EE fa) (RE X EE fb)) s H Q := by
  intro s H Q ⟨r, G, A, S, hr, hR, q⟩
  refine to_binM s H _ (re_bnd hr hR q (fun _ _ z => z) fun G1 A1 H1 x d S1 a1 r1 R1 n1 q1 => ?_)
  cases d with
  | bl k => cases n1; exact ⟨k, rfl, q1 G1 A1 H1 a1 R1⟩
  | _ => exact q1.elim
theorem ft_cmpM {op : CmpOp} (ho : OpR X (compareOp op) (rM2 X EE h)) (ha : FE X EE a fa) (hb : FE X EE b fb) (hm : behindInMarks op b = false := by first | exact nomark _ | rfl) : FT X EE (.Compare a [op] [b] pos) (asB (eBinM h fa fb)) :=
  pt_weak (pt_cmpR ho ha hb hm) to_testM
/-- the answer of a def that is asked for a truth value -/
def bR (neg : Bool) : R D → R D
  | .ok (.bl b) S => .ok (.bl (b != neg)) S
  | .ok _ _ => .no
  | .ex x S => .ex x S
  | .no => .no
/-- x in y -/
def hIn (neg : Bool) (tb : List (Str × (List D → M D))) (g : D → D → Option D) : D → D → M D := fun x y S => match y.ins? S with
  | some (C, _) => (match tb.lookup C with
    | some F => bR neg (F [y, x] S)
    | none => .no)
  | none => opt (g (vw S x) (vw S y)) S
/-- x[y] -/
def hIx (tb : List (Str × (List D → M D))) (g : D → D → Option D) : D → D → M D := fun x y S => match x.ins? S with
  | some (C, _) => (match tb.lookup C with
    | some F => F [x, y] S
    | none => .no)
  | none => opt (g (vw S x) (vw S y)) S
theorem data_op {op : Value → Value → Sem Value} {g : D → D → Option D} (hd : OpR X op (rD2 X.K g)) {pins : List (Addr × Obj)} {s : Shared} {σ : L2.St} {H : Hp} {x y : V} {v u : Value} {Q : VK} (I : Inv X pins σ H s) (rx : RelV x v) (ry : RelV y u) {G : Hp} {A : List Addr} {S : Sto} {d e : D} (R : Rel X.K A S G H) (n1 : Dn X.K G A x d) (n2 : Dn X.K G A y e)
    (q : (opt (g (vw S d) (vw S e)) S : FL.R D).post (QV X.K G A H Q) (QE X.K X.mg EE G A H)) : wpAny (model X.prog X.w) X.A (op v u) (EP X pins σ Q) X.xe s := by
  rw [post_opt] at q
  obtain ⟨z, hz, q⟩ := q
  exact hd pins s σ H x y v u Q I rx ry ⟨G, A, S, _, _, z, R, R.view n1, R.view n2, hz, fun G3 H3 v a3 R3 n3 => q G3 A H3 v a3 R3 n3⟩
section
variable [Gds] {CX : CXT} {k j : Nat} {tb : List (Str × (List D → M D))} {g : D → D → Option D}
theorem post_bR {neg : Bool} {m : FL.R D} {K : PySem.W.Frag} {G H : Hp} {A : List Addr} {Q : VK} {E : Exn → Sto → Prop} (q : (bR neg m).post (QV K G A H Q) E) : m.post (QV K G A H fun z H' => ∃ b, z = .bl b ∧ Q (.bl (b != neg)) H') E := by
  cases m with
  | no => exact q.elim
  | ex x S => exact q
  | ok d S =>
    cases d with
    | bl b =>
      intro G' A' H' v e1 R1 n1
      cases n1
      exact ⟨b, rfl, q G' A' H' _ e1 R1 (.bl _)⟩
    | _ => exact q.elim
theorem op_inM (hc : ∀ p ∈ tb, MetD X.prog X.w X.K X.mg X.base CX k p.1 "__contains__" 1 [] gAll p.2) (hr : Room j X.A) (hk : k ≤ j) (hgd : Gds.gd X.A) (hx : Passes CX X EE) (hd : OpR X (compareOp .In) (rD2 X.K g)) : OpR X (compareOp .In) (rM2 X EE (hIn false tb g)) := by
  intro pins s σ H x y v u Q I rx ry ⟨G, A, S, d, e, R, n1, n2, q⟩
  unfold hIn at q
  cases hi : e.ins? S with
  | none => rw [hi] at q; exact data_op hd I rx ry R n1 n2 q
  | some p =>
    obtain ⟨C, fs⟩ := p
    rw [hi] at q
    obtain ⟨a, dx, vs, rfl, e1, t⟩ := ins_at R n2 hi
    obtain rfl : u = Value.ref a := ry
    cases hl : tb.lookup C with
    | none => simp only [hl] at q; exact q.elim
    | some F =>
      simp only [hl] at q
      obtain ⟨f, fd, ps, hF', c, M, _, b⟩ := (hc _ (PySem.mem_of_lookup hl)).ex
      obtain ⟨mA, O, _, _, _, _⟩ := ins_get I.hok e1
      obtain ⟨od, J, _⟩ := O.look
      obtain ⟨m, hF⟩ := I.fr
      refine PySem.W.in_K hF I.ok.mod.kin J M.at_ M.fn ?_
      refine wpAny_mono (wpAny_call (run_met hF' b (hr.mono hk) hgd (us := [.ref a, v]) (ws := []) (vs := [.ref a, x]) (zs := []) (ds := [e, d]) (es := []) I.env0 (fun e s' => hx pins σ H s e s' I) I (.cons rfl (.cons rx .nil)) .nil R (.cons n2 (.cons n1 .nil)) .nil rfl rfl (post_bR q))) (fun w s' z => ?_) fun _ _ z => z
      obtain ⟨z', H', I', rz, k', ek, qz⟩ := z
      subst ek
      obtain rfl : w = Value.bool k' := rz
      refine wpAny_truthy_bool ⟨.bl k', H', I', rfl, ?_⟩
      simpa using qz
theorem op_notInM (hc : ∀ p ∈ tb, MetD X.prog X.w X.K X.mg X.base CX k p.1 "__contains__" 1 [] gAll p.2) (hr : Room j X.A) (hk : k ≤ j) (hgd : Gds.gd X.A) (hx : Passes CX X EE) (hd : OpR X (compareOp .NotIn) (rD2 X.K g)) : OpR X (compareOp .NotIn) (rM2 X EE (hIn true tb g)) := by
  intro pins s σ H x y v u Q I rx ry ⟨G, A, S, d, e, R, n1, n2, q⟩
  unfold hIn at q
  cases hi : e.ins? S with
  | none => rw [hi] at q; exact data_op hd I rx ry R n1 n2 q
  | some p =>
    obtain ⟨C, fs⟩ := p
    rw [hi] at q
    obtain ⟨a, dx, vs, rfl, e1, t⟩ := ins_at R n2 hi
    obtain rfl : u = Value.ref a := ry
    cases hl : tb.lookup C with
    | none => simp only [hl] at q; exact q.elim
    | some F =>
      simp only [hl] at q
      obtain ⟨f, fd, ps, hF', c, M, _, b⟩ := (hc _ (PySem.mem_of_lookup hl)).ex
      obtain ⟨mA, O, _, _, _, _⟩ := ins_get I.hok e1
      obtain ⟨od, J, _⟩ := O.look
      obtain ⟨m, hF⟩ := I.fr
      refine PySem.W.notIn_K hF I.ok.mod.kin J M.at_ M.fn ?_
      refine wpAny_mono (wpAny_call (run_met hF' b (hr.mono hk) hgd (us := [.ref a, v]) (ws := []) (vs := [.ref a, x]) (zs := []) (ds := [e, d]) (es := []) I.env0 (fun e s' => hx pins σ H s e s' I) I (.cons rfl (.cons rx .nil)) .nil R (.cons n2 (.cons n1 .nil)) .nil rfl rfl (post_bR q))) (fun w s' z => ?_) fun _ _ z => z
      obtain ⟨z', H', I', rz, k', ek, qz⟩ := z
      subst ek
      obtain rfl : w = Value.bool k' := rz
      refine wpAny_truthy_bool ⟨.bl (!k'), H', I', rfl, ?_⟩
      simpa using qz
theorem fe_ixM [GdsI] (hc : ∀ p ∈ tb, MetD X.prog X.w X.K X.mg X.base CX k p.1 "__getitem__" 1 [] gAll p.2) (hr : Room j X.A) (hk : k + 1 ≤ j) (hgd : Gds.gd X.A) (hx : Passes CX X EE) (hd : IxR X (rD2 X.K g)) (ha : FE X EE a fa) (hb : FE X EE b fb) (hs : PlainIx b := by exact fun _ _ => rfl)
    (hs2 : ∀ o i, subscripted b true o i = runValue (.builtin "lifetime.subscript" ⟨[o, i], []⟩) := by exact fun _ _ => rfl) : FE X EE (.Subscript a b pos) (eBinM (hIx tb g) fa fb) := by
  refine pe_weak (t := tOp (rM2 X EE (hIx tb g)) (RE X EE fa) (RE X EE fb)) ⟨fun pins s σ H Q I h => ?_⟩ to_binM
  refine Subscript_ (binT ha hb I h fun v u s2 x y H2 I2 rx ry ⟨G, A, S, d, e, R, n1, n2, q⟩ => ?_)
  unfold hIx at q
  cases hi : d.ins? S with
  | none =>
    rw [hi] at q
    dsimp only at q
    rw [post_opt] at q
    obtain ⟨z, hz, q⟩ := q
    exact hd a b pins s2 σ H2 x y v u Q I2 rx ry ⟨G, A, S, _, _, z, R, R.view n1, R.view n2, hz, fun G3 H3 v a3 R3 n3 => q G3 A H3 v a3 R3 n3⟩ (hs _ _)
  | some p =>
    obtain ⟨C, fs⟩ := p
    rw [hi] at q
    obtain ⟨p, dx, vs, rfl, e1, t⟩ := ins_at R n1 hi
    obtain rfl : v = Value.ref p := rx
    cases hl : tb.lookup C with
    | none => simp only [hl] at q; exact q.elim
    | some F =>
      simp only [hl] at q
      obtain ⟨f, fd, ps, hF', c, M, fi, bb⟩ := (hc _ (PySem.mem_of_lookup hl)).ex
      obtain ⟨mA, O, _, _, _, _⟩ := ins_get I2.hok e1
      obtain ⟨od, J, _⟩ := O.look
      obtain ⟨m, hF⟩ := I2.fr
      have hr1 : Room (k + 1) X.A := hr.mono hk
      have hfn : PySem.W.fnIn X.K f = true := fi
      refine PySem.W.sub_K hF I2.ok.mod.kin J M.at_ hfn M.fn ?_ (hs2 _ _)
      exact wpAny_call (run_met hF' bb hr1.in1 (GdsI.in1 _ hgd) (us := [.ref p, u]) (ws := []) (vs := [.ref p, y]) (zs := []) (ds := [d, e]) (es := []) I2.env0.in1 (fun e s' => hx pins σ H2 s2 e s' I2) I2 (.cons rfl (.cons ry .nil)) .nil R (.cons n1 (.cons n2 .nil)) .nil rfl rfl q)
end
end
end FL
end
section
set_option Elab.async false
set_option linter.all false
set_option maxRecDepth 100000
set_option autoImplicit false
set_option maxHeartbeats 1000000
namespace FL
open PySem PySem.Spec PyProof.Rows L2
/-! ## isinstance(e, C), C an own class -/
/-- what of the text a class must have to be asked for -/
structure IsiC (K : PySem.W.Frag) (C : Addr) : Prop where
  cl : Cls K C
  ha : PySem.W.findIn K (.ref C) "__class__" = some (some (.builtin "object.__class__"))
  hn : PySem.W.specialIn K (.builtin "object.__class__") "__get__" = some (some (.builtin "getset_descriptor.__get__"))
  ht : PySem.W.takesIn K (.builtin "object.__class__") = some true
  hm : PySem.W.mroIn K C (.type "object") = some true
def eIsO (tb : List (Str × Bool)) (fa : FEx) : FEx := fun r => bnd (fa r) fun d => fun S => match d.ins? S with
  | some (C, _) => (match tb.lookup C with
    | some b => .ok (.bl b) S
    | none => .no)
  | none => (match nmD (vw S d) with
    | some _ => .ok (.bl false) S
    | none => .no)
/-- none of the built-in types is below C -/
def noTy (K : PySem.W.Frag) (C : Addr) : Prop := ∀ n ∈ ["NoneType", "bool", "int", "str", "list", "tuple", "dict"], PySem.W.kitOne K (.type n) (.ref C) = some false
theorem nmD_mem {d : D} {n : String} (h : nmD d = some n) : n ∈ ["NoneType", "bool", "int", "str", "list", "tuple", "dict"] := by
  cases d <;> simp [nmD] at h <;> subst h <;> decide
section
variable {X : Cx} {EE : XK}
theorem fe_isO {tb : List (Str × Bool)} {C : Str} {a b : Expr} {fa : FEx} {p pos : Pos} (hc : ∀ q ∈ tb, IsiC X.K (He.ga X.K q.1) ∧ PySem.W.kitOne X.K (.ref (He.ga X.K q.1)) (.ref (He.ga X.K C)) = some q.2) (hn : noTy X.K (He.ga X.K C)) (ha : FE X EE a fa) (hb : PE X b (L2.tC (.ref (He.ga X.K C)))) (hg : Gl X "isinstance") (hm : X.mg "isinstance" = none)
    (he : starEach [a, b] X.env = (false, eval a X.env) :: starEach [b] X.env := by rfl) (he2 : starEach [b] X.env = (false, eval b X.env) :: starEach [] X.env := by rfl) (hpl : (backTo pos (starEach [b] X.env)).any (·.1) = false := by rfl) :
    FE X EE (.Call (.Name "isinstance" p) [a, b] [] pos) (eIsO tb fa) := by
  refine pe_weak (pe_callB call_isi hg hm (by decide +kernel) (pa_cons ha (pa_cons hb pa_nil he2) he) (by decide) (by decide) he hpl) fun s H Q ⟨r, G, A, S, hr, hR, q⟩ => ?_
  refine re_bnd hr hR q (fun _ _ z => z) fun G1 A1 H1 x d S1 a1 r1 R1 n1 q1 => ?_
  cases hi : d.ins? S1 with
  | some c =>
    obtain ⟨C', fs⟩ := c
    rw [hi] at q1
    cases hl : tb.lookup C' with
    | none => simp only [hl] at q1; exact q1.elim
    | some k =>
      simp only [hl] at q1
      obtain ⟨a', dx, vs, rfl, e1, t⟩ := ins_at R1 n1 hi
      obtain ⟨c1, c2⟩ := hc _ (PySem.mem_of_lookup hl)
      exact ⟨.ref a', .ref (He.ga X.K C), .ref (He.ga X.K C'), .ref (He.ga X.K C), k, rfl, .own _, .base (.ins e1 c1.cl c1.ha c1.hn c1.ht c1.hm), c2, q1 G1 A1 H1 _ a1 R1 (.bl k)⟩
  | none =>
    rw [hi] at q1
    cases hl : nmD (vw S1 d) with
    | none => simp only [hl] at q1; exact q1.elim
    | some n =>
      simp only [hl] at q1
      exact ⟨x, .ref (He.ga X.K C), .type n, .ref (He.ga X.K C), false, rfl, .own _, tyx_of R1 (R1.view n1) hl, hn n (nmD_mem hl), q1 G1 A1 H1 _ a1 R1 (.bl false)⟩
/-! ## isinstance(e, T), T a built-in type, e perhaps an instance -/
end
end FL
end
section
set_option Elab.async false
set_option linter.all false
set_option maxRecDepth 100000
set_option autoImplicit false
set_option maxHeartbeats 1000000
/-! What the head tells of classes: their methods, properties, fields. -/
namespace FL
open PySem PySem.Spec PyProof.Rows L2
/-- the def behind a property, a classmethod, a staticmethod -/
def pAd (K : PySem.W.Frag) (p : Str × Str × String) : Addr := match PySem.W.recIn K (He.ma K (He.ga K p.1) p.2.1) p.2.2 with
  | some (.ref g :: _) => g
  | _ => 0
def fnA (K : PySem.W.Frag) (a : Addr) : He.FnW := match K.lookup a with
  | some ⟨_, _, .func fd, _⟩ => some (fd.name, fd.qualname, fd.params, fd.body, fd.scope, fd.globals, fd.closure, fd.builtins)
  | _ => none
def okA (K : PySem.W.Frag) (a : Addr) (d : He.DefD) : Bool := PySem.W.keepIn K (.ref a) && (match K.lookup a with
  | some ⟨_, _, .func fd, _⟩ => PySem.W.codeIn K fd.code d.qual && (He.dflB K fd.defaults (d.dvs K) && He.kwdB K fd.kwdefaults (d.kws K))
  | _ => false)
theorem funA {K : PySem.W.Frag} {a : Addr} {d : He.DefD} (e : fnA K a = d.val) (c : okA K a d = true) : ∃ fd, FunD K d.name d.qual d.params d.body d.scope (d.dvs K) (d.kws K) a fd := by
  obtain ⟨kp, c2⟩ := He.ba c
  unfold fnA at e
  cases q : K.lookup a with
  | none =>
    rw [q] at c2
    cases c2
  | some o =>
    obtain ⟨oc, od, dt, osl⟩ := o
    rw [q] at c2 e
    cases dt with
    | func fd =>
      obtain ⟨n1, n2, n3, n4, n5, n6, n7, n8, n9, n10, n11, n12, n13, n14, n15⟩ := fd
      have e2 : (some (n1, n2, n3, n4, n5, n6, n7, n15) : He.FnW) = some (d.name, d.qual, d.params, .stmts d.body, d.scope, mainGlobals, [], builtinsNs) := e
      simp only [Option.some.injEq, Prod.mk.injEq] at e2
      obtain ⟨h1, h2, h3, h4, h5, h6, h7, h8⟩ := e2
      subst h1 h2 h3 h4 h5 h6 h7 h8
      have c3 : (PySem.W.codeIn K n13 d.qual && (He.dflB K n8 (d.dvs K) && He.kwdB K n9 (d.kws K))) = true := c2
      obtain ⟨k1, k2⟩ := He.ba c3
      obtain ⟨k3, k4⟩ := He.ba k2
      exact ⟨_, ⟨oc, od, n8, n9, n10, n11, n12, n13, n14, osl, rfl, q, k1, He.dflB_ok k3, He.kwdB_ok k4⟩, kp⟩
    | _ => cases c2
theorem fnIn_of {K : PySem.W.Frag} {x qual : Str} {params : Arguments} {body : List Stmt} {scope : Scope} {dvs : List V} {kws : List (Str × V)} {f : Addr} {fd : FuncData} (F : FunD K x qual params body scope dvs kws f fd) : PySem.W.fnIn K f = true := by
  obtain ⟨oc, od, dV, kV, doc, pm, an, cdv, ct, osl, rfl, lk, _⟩ := F.ex
  unfold PySem.W.fnIn
  rw [lk]
/-! ## classes -/
structure CRow where
  C : Str
  up : List Str
  made : Bool
  ms : List Str
  ps : List Str
  fs : List Str
def propB (K : PySem.W.Frag) (C : Str) (f : Str) : Bool := He.eqO (PySem.W.findIn K (.ref (He.ga K C)) f) (some (some (.ref (He.ma K (He.ga K C) f)))) && (He.eqO (PySem.W.specialIn K (.ref (He.ma K (He.ga K C) f)) "__get__") (some (some (.builtin "property.__get__"))) && (dB (PySem.W.takesIn K (.ref (He.ma K (He.ga K C) f))) (some true) &&
  (match PySem.W.recIn K (He.ma K (He.ga K C) f) "property" with
  | some (.ref _ :: _) => true
  | _ => false)))
def cBs (K : PySem.W.Frag) (cs : List Str) (r : CRow) : List Bool :=
  [(He.Fa.cls r.C).ok K, He.eqO (PySem.W.findIn K (.ref (He.ga K r.C)) "__class__") (some (some (.builtin "object.__class__"))), He.eqO (PySem.W.specialIn K (.builtin "object.__class__") "__get__") (some (some (.builtin "getset_descriptor.__get__"))), dB (PySem.W.takesIn K (.builtin "object.__class__")) (some true),
    dB (PySem.W.mroIn K (He.ga K r.C) (.type "object")) (some true), !r.made || (He.Fa.mkr r.C).ok K, r.ms.all (fun m => (He.Fa.meth r.C m).ok K), r.ps.all (propB K r.C), r.fs.all (fun f => (He.Fa.noat r.C f).ok K), PySem.W.selfFirst K (He.ga K r.C),
    cs.all (fun c => dB (PySem.W.kitOne K (.ref (He.ga K r.C)) (.ref (He.ga K c))) (some (r.up.contains c))), ["NoneType", "bool", "int", "str", "list", "tuple", "dict"].all (fun n => dB (PySem.W.kitOne K (.type n) (.ref (He.ga K r.C))) (some false)),
    ["int", "bool", "str", "tuple", "list", "dict"].all (fun n => dB (PySem.W.kitOne K (.ref (He.ga K r.C)) (.type n)) (some false)),
    ["NoneType", "bool", "int", "str", "list", "tuple", "dict"].all (fun n => dB (PySem.W.subIn K (.type n) (.ref (He.ga K r.C))) (some false))]
structure COk (K : PySem.W.Frag) (cs : List Str) (r : CRow) : Prop where
  isi : IsiC K (He.ga K r.C)
  mkr : r.made = true → L2.Mk K (He.ga K r.C) (He.ma K (He.ga K r.C) "__init__")
  ms : ∀ m ∈ r.ms, L2.Meth K (He.ga K r.C) m (He.ma K (He.ga K r.C) m)
  ps : ∀ f ∈ r.ps, L2.PropOf K (He.ga K r.C) f (He.ma K (He.ga K r.C) f) (pAd K (r.C, f, "property"))
  fs : ∀ f ∈ r.fs, Cls K (He.ga K r.C) ∧ NoAttr K (He.ga K r.C) f
  sf : PySem.W.selfFirst K (He.ga K r.C) = true
  kit : ∀ c ∈ cs, PySem.W.kitOne K (.ref (He.ga K r.C)) (.ref (He.ga K c)) = some (r.up.contains c)
  no : noTy K (He.ga K r.C)
  ty : ∀ n ∈ ["int", "bool", "str", "tuple", "list", "dict"], PySem.W.kitOne K (.ref (He.ga K r.C)) (.type n) = some false
  nf : ∀ n ∈ ["NoneType", "bool", "int", "str", "list", "tuple", "dict"], PySem.W.notFirst K (He.ga K r.C) (.type n) = true
theorem cOk_of {K : PySem.W.Frag} {cs : List Str} {r : CRow} (h : (cBs K cs r).all id = true) : COk K cs r := by
  have g : ∀ i b, (cBs K cs r)[i]? = some b → b = true := fun i b e => all_at h e
  have d : ∀ {a b : Option Bool}, dB a b = true → a = b := fun h => of_decide_eq_true h
  have cl := He.cls_ok (g 0 _ rfl)
  refine ⟨⟨cl, He.eqO_ok (g 1 _ rfl), He.eqO_ok (g 2 _ rfl), d (g 3 _ rfl), d (g 4 _ rfl)⟩, fun hm => ?_, fun m hm => He.meth_ok (List.all_eq_true.mp (g 6 _ rfl) m hm), fun f hf => ?_, fun f hf => ⟨cl, He.noat_ok (List.all_eq_true.mp (g 8 _ rfl) f hf)⟩, g 9 _ rfl,
    fun c hc => d (List.all_eq_true.mp (g 10 _ rfl) c hc), fun n hn => d (List.all_eq_true.mp (g 11 _ rfl) n hn), fun n hn => d (List.all_eq_true.mp (g 12 _ rfl) n hn), fun n hn => ?_⟩
  · have z : (!r.made || (He.Fa.mkr r.C).ok K) = true := g 5 _ rfl
    rw [hm] at z
    exact He.mkr_ok z
  · have z := List.all_eq_true.mp (g 7 _ rfl) f hf
    obtain ⟨z1, z⟩ := He.ba z
    obtain ⟨z2, z⟩ := He.ba z
    obtain ⟨z3, z4⟩ := He.ba z
    refine ⟨He.eqO_ok z1, He.eqO_ok z2, d z3, ?_⟩
    unfold pAd
    cases q : PySem.W.recIn K (He.ma K (He.ga K r.C) f) "property" with
    | none => rw [q] at z4; cases z4
    | some l =>
      rw [q] at z4
      cases l with
      | nil => cases z4
      | cons v rest =>
        cases v with
        | ref g => exact ⟨rest, rfl⟩
        | _ => cases z4
  · have z := d (List.all_eq_true.mp (g 13 _ rfl) n hn)
    unfold PySem.W.notFirst
    rw [z]
    simp
/-! ## the hook -/
def mAs (g : Addr → Option Obj) (K : PySem.W.Frag) (p : Str × Str) : List Addr := He.ma K (He.ga K p.1) p.2 :: (match g (He.ma K (He.ga K p.1) p.2) with
  | some o => (He.refsD o).flatMap fun b => b :: (match g b with
    | some o2 => (match o2.data with
      | .func _ => He.refsD o2
      | .seq _ _ => He.refsD o2
      | _ => [])
    | none => [])
  | none => [])
def asZ (n : Nat) (cls : List Str) (ms : List (Str × Str)) (g : Addr → Option Obj) : List Addr := (asY n cls g ++ ms.flatMap (mAs g (He.frG g (He.asD g n)))).eraseDups
abbrev AlZ : Type := AlY × (Bool × List He.FnW)
def obsZ (fa : List He.Fa) (fn : List He.DefD) (ts : List He.Tab) (tf : List He.Defn) (ex : PySem.W.Frag → Bool) (cls : List Str) (gp : List ((Str × Str × String) × He.DefD)) (K : PySem.W.Frag) (g : Addr → Option Obj) : AlZ := (obsY fa fn ts tf ex cls K g, (gp.all (fun q => okA K (pAd K q.1) q.2), gp.map fun q => fnA K (pAd K q.1)))
def valsG (gp : List ((Str × Str × String) × He.DefD)) : List He.FnW := gp.map fun q => q.2.val
def hookZ (n : Nat) (fa : List He.Fa) (fn : List He.DefD) (ts : List He.Tab) (tf : List He.Defn) (ex : PySem.W.Frag → Bool) (cls : List Str) (exp : List InitV) (ms : List (Str × Str)) (gp : List ((Str × Str × String) × He.DefD)) : PySem.W.Hook where
  α := AlZ
  obs := fun s => obsZ fa fn ts tf ex cls gp (He.frT s.heap.get? (asZ n cls ms s.heap.get?)) s.heap.get?
  val := fun w => ((He.valX fn ts w, exp), (true, valsG gp))
  says := fun w h => ∃ K : PySem.W.Frag, K.In h ∧ He.SaysX fa fn ts tf ex w h K ∧ cls.map (initW K) = exp ∧ gp.all (fun q => okA K (pAd K q.1) q.2) = true ∧ gp.map (fun q => fnA K (pAd K q.1)) = valsG gp
  of := fun _ _ e => ⟨_, He.frT_in, saysY (congrArg (fun z : AlZ => z.1.1) e), congrArg (fun z : AlZ => z.1.2) e, (congrArg (fun z : AlZ => z.2.1) e :), (congrArg (fun z : AlZ => z.2.2) e :)⟩
  keeps := fun _ _ _ ⟨K, hK, c, ci, cg⟩ k => ⟨K, PySem.W.Frag.In.keeps hK k, ⟨c.t, c.more, c.hd, c.out, fun p hp => k _ _ (c.empty p hp)⟩, ci, cg⟩
theorem obsZ_eq {n : Nat} {fa : List He.Fa} {fn : List He.DefD} {ts : List He.Tab} {tf : List He.Defn} {ex : PySem.W.Frag → Bool} {cls : List Str} {exp : List InitV} {ms : List (Str × Str)} {gp : List ((Str × Str × String) × He.DefD)} {g : Addr → Option Obj} {s : Shared} (h : ∀ a, g a = s.heap.get? a) :
    obsZ fa fn ts tf ex cls gp (He.frT g (asZ n cls ms g)) g = (hookZ n fa fn ts tf ex cls exp ms gp).obs s := by
  have e : g = s.heap.get? := funext h
  rw [e] <;> rfl
theorem gp_fun {K : PySem.W.Frag} {gp : List ((Str × Str × String) × He.DefD)} (h1 : gp.all (fun q => okA K (pAd K q.1) q.2) = true) (h2 : gp.map (fun q => fnA K (pAd K q.1)) = valsG gp) {q : (Str × Str × String) × He.DefD} (hq : q ∈ gp) :
    ∃ fd, FunD K q.2.name q.2.qual q.2.params q.2.body q.2.scope (q.2.dvs K) (q.2.kws K) (pAd K q.1) fd := by
  obtain ⟨i, hi⟩ := List.getElem?_of_mem hq
  have e := congrArg (fun l => l[i]?) h2
  unfold valsG at e
  simp only [List.getElem?_map, hi, Option.map_some, Option.some.injEq] at e
  exact funA e (List.all_eq_true.mp h1 q hq)
end FL
end
section
set_option Elab.async false
set_option linter.all false
set_option maxRecDepth 100000
set_option autoImplicit false
set_option maxHeartbeats 1000000
namespace FL
open PySem PySem.Spec PyProof.Rows L2
/-! ## an instance beside anything -/
def hCmp (tb : List (Str × (List D → M D))) (g : D → D → Option D) : D → D → M D := fun x y S => match x.ins? S with
  | some (C, _) => (match tb.lookup C with
    | some F => (match y.ins? S with
      | some (C', _) => if C' = C then F [x, y] S else .no
      | none => (match nmD (vw S y) with
        | some _ => F [x, y] S
        | none => .no))
    | none => .no)
  | none => (match y.ins? S with
    | none => opt (g (vw S x) (vw S y)) S
    | some _ => .no)
section
variable [Gds] {X : Cx} {EE : XK} {CX : CXT} {k j : Nat} {tb : List (Str × (List D → M D))} {g : D → D → Option D}
theorem op_cmpA {op : CmpOp} (hop : ∀ a b, compareOp op a b = richCompare op a b) (hc : ∀ p ∈ tb, MetD X.prog X.w X.K X.mg X.base CX k p.1 (cmpInfo op).2.1 1 [] gAll p.2 ∧ ∀ n ∈ ["NoneType", "bool", "int", "str", "list", "tuple", "dict"], PySem.W.notFirst X.K (He.ga X.K p.1) (.type n) = true) (hr : Room j X.A) (hk : k ≤ j) (hgd : Gds.gd X.A) (hx : Passes CX X EE) (hd : OpR X (compareOp op) (rD2 X.K g)) : OpR X (compareOp op) (rM2 X EE (hCmp tb g)) := by
  intro pins s σ H x y v u Q I rx ry ⟨G, A, S, d, e, R, n1, n2, q⟩
  unfold hCmp at q
  cases h1 : d.ins? S with
  | none =>
    rw [h1] at q
    cases h2 : e.ins? S with
    | none => rw [h2] at q; exact data_op hd I rx ry R n1 n2 q
    | some p => rw [h2] at q; exact q.elim
  | some p =>
    obtain ⟨C, fs⟩ := p
    rw [h1] at q
    cases hl : tb.lookup C with
    | none => simp only [hl] at q; exact q.elim
    | some F =>
      simp only [hl] at q
      have hm := PySem.mem_of_lookup hl
      obtain ⟨a, dx, vs, rfl, e1, t⟩ := ins_at R n1 h1
      obtain rfl : v = Value.ref a := rx
      obtain ⟨⟨f, fd, ps, hF', c, M, _, b⟩, nf⟩ := hc _ hm
      obtain ⟨mA, O, _, _, _, _⟩ := ins_get I.hok e1
      obtain ⟨od, J, _⟩ := O.look
      obtain ⟨m, hF⟩ := I.fr
      have fin : ∀ (tb' : Value), (∀ M : Model, PySem.W.Looks M s.heap (typeOf u) tb') → PySem.W.notFirst X.K (He.ga X.K C) tb' = true → (F [d, e] S).post (QV X.K G A H Q) (QE X.K X.mg EE G A H) → wpAny (model X.prog X.w) X.A (compareOp op (.ref a) u) (EP X pins σ Q) X.xe s := fun tb' ht hn q => by
        rw [hop]
        refine PySem.W.cmp_K (op := op) (tb := tb') hr.units0 hF I.ok.mod.kin J (ht _) hn M.at_ M.fn ?_
        refine wpAny_mono (wpAny_call (run_met hF' b (hr.mono hk) hgd (us := [.ref a, u]) (ws := []) (vs := [.ref a, y]) (zs := []) (ds := [d, e]) (es := []) I.env0 (fun e s' => hx pins σ H s e s' I) I (.cons rfl (.cons ry .nil)) .nil R (.cons n1 (.cons n2 .nil)) .nil rfl rfl q)) (fun w s' z => ?_) fun _ _ z => z
        obtain ⟨z', H', I', rz, qz⟩ := z
        exact SlX.cmpback rz ⟨z', H', I', rz, qz⟩
      cases h2 : e.ins? S with
      | some p' =>
        obtain ⟨C', fs'⟩ := p'
        rw [h2] at q
        by_cases hC : C' = C
        · subst hC
          simp only [if_true] at q
          obtain ⟨a', dx', vs', rfl, e1', t'⟩ := ins_at R n2 h2
          obtain rfl : u = Value.ref a' := ry
          obtain ⟨mA', O', _, _, _, _⟩ := ins_get I.hok e1'
          obtain ⟨od', J', _⟩ := O'.look
          exact fin _ (fun M => J'.type) (by unfold PySem.W.notFirst; simp) q
        · simp only [if_neg hC] at q
          exact q.elim
      | none =>
        rw [h2] at q
        cases h3 : nmD (vw S e) with
        | none => simp only [h3] at q; exact q.elim
        | some n =>
          simp only [h3] at q
          obtain ⟨P, kx, hp, _⟩ := kit_of I ry (tyx_of R (R.view n2) h3)
          exact fin _ (fun M => kx.ty M s.heap I.kIn hp) (nf n (nmD_mem h3)) q
end
/-! ## classmethods: the class itself is handed over -/
def clsV (a : Addr) : FnV := ⟨a, a, "", []⟩
def clsD (a : Addr) : D := .fn (clsV a) []
end FL
end
section
set_option Elab.async false
set_option linter.all false
set_option maxRecDepth 100000
set_option autoImplicit false
set_option maxHeartbeats 1000000
namespace FL
open PySem PySem.Spec PyProof.Rows L2
/-! ## classmethods, by the head -/
def cmB (K : PySem.W.Frag) (q : Str × Str) : Bool :=
  PySem.W.readsIn K (He.ga K q.1) (.type "type") && (He.eqO (PySem.W.specialIn K (.ref (He.ga K q.1)) "__getattribute__") (some (some (.builtin "type.__getattribute__"))) && ((match PySem.W.findCls K (.ref (He.ga K q.1)) (.type "type") q.2 with
  | some (.get g a o t) => decide (g = .builtin "classmethod.__get__") && (decide (a = .ref (He.ma K (He.ga K q.1) q.2)) && (decide (o = .none) && decide (t = .ref (He.ga K q.1))))
  | _ => false) && ((match PySem.W.recIn K (He.ma K (He.ga K q.1) q.2) "classmethod" with
  | some (.ref _ :: _) => true
  | _ => false) && PySem.W.fnIn K (pAd K (q.1, q.2, "classmethod")))))
theorem cmB_ok {K : PySem.W.Frag} {q : Str × Str} (h : cmB K q = true) : ClX.CRead K (He.ga K q.1) (.type "type") ∧ ClX.CMet K (He.ga K q.1) (.type "type") q.2 (He.ma K (He.ga K q.1) q.2) (pAd K (q.1, q.2, "classmethod")) := by
  obtain ⟨h1, h⟩ := He.ba h
  obtain ⟨h2, h⟩ := He.ba h
  obtain ⟨h3, h⟩ := He.ba h
  obtain ⟨h4, h5⟩ := He.ba h
  refine ⟨⟨h1, He.eqO_ok h2⟩, ?_, ?_, h5⟩
  · split at h3
    · rename_i g a o t e
      obtain ⟨k1, h3⟩ := He.ba h3
      obtain ⟨k2, h3⟩ := He.ba h3
      obtain ⟨k3, k4⟩ := He.ba h3
      rw [e, of_decide_eq_true k1, of_decide_eq_true k2, of_decide_eq_true k3, of_decide_eq_true k4]
    · cases h3
  · unfold pAd
    cases z : PySem.W.recIn K (He.ma K (He.ga K q.1) q.2) "classmethod" with
    | none => rw [z] at h4; cases h4
    | some l =>
      rw [z] at h4
      cases l with
      | nil => cases h4
      | cons v rest =>
        cases v with
        | ref g => exact ⟨rest, rfl⟩
        | _ => cases h4
/-! ## what is known of the program, with classes -/
abbrev GpD : Type := (Str × Str × String) × He.DefD
structure TopC (crs : List CRow) (csn : List Str) (cms : List (Str × Str)) (mdf : List He.DefD) (gdf : List GpD) (K : PySem.W.Frag) (mg : Str → Option Value) : Prop where
  cl : ∀ r ∈ crs, COk K csn r
  cgl : ∀ c ∈ csn, mg c = some (.ref (He.ga K c))
  cm : ∀ q ∈ cms, ClX.CRead K (He.ga K q.1) (.type "type") ∧ ClX.CMet K (He.ga K q.1) (.type "type") q.2 (He.ma K (He.ga K q.1) q.2) (pAd K (q.1, q.2, "classmethod"))
  mt : ∀ d ∈ mdf, ∃ fd, FunD K d.name d.qual d.params d.body d.scope (d.dvs K) (d.kws K) (He.fAd K d.at_) fd
  gt : ∀ q ∈ gdf, ∃ fd, FunD K q.2.name q.2.qual q.2.params q.2.body q.2.scope (q.2.dvs K) (q.2.kws K) (pAd K q.1) fd
/-- tables of methods, one after another -/
theorem all_1 {α : Type} {P : α → Prop} {a : α} (h : P a) : ∀ p ∈ [a], P p := fun p hp => by rw [List.mem_singleton.mp hp]; exact h
theorem all_0 {α : Type} {P : α → Prop} : ∀ p ∈ ([] : List α), P p := fun p hp => by cases hp
theorem all_c {α : Type} {P : α → Prop} {a : α} {l : List α} (h : P a) (t : ∀ p ∈ l, P p) : ∀ p ∈ a :: l, P p := fun p hp => by
  rcases List.mem_cons.mp hp with rfl | hp
  · exact h
  · exact t p hp
end FL
end
section
set_option Elab.async false
set_option linter.all false
set_option maxRecDepth 100000
set_option autoImplicit false
set_option maxHeartbeats 1000000
namespace FL
open PySem PySem.Spec PyProof.Rows L2
/-! ## max, min -/
def bestL (f : Int → Int → Int) : List Int → Option Int
  | [] => none
  | n :: ns => some (ns.foldl f n)
theorem fold_max : ∀ (ns : List Int) (n : Int), ns.foldl max n ∈ n :: ns ∧ ∀ y ∈ n :: ns, y ≤ ns.foldl max n
  | [], n => ⟨by simp, by simp⟩
  | m :: ns, n => by
    obtain ⟨h1, h2⟩ := fold_max ns (max n m)
    rw [List.foldl_cons]
    refine ⟨?_, fun y hy => ?_⟩
    · rcases List.mem_cons.mp h1 with e | e
      · rw [e]
        rcases Int.le_total n m with z | z
        · rw [Int.max_eq_right z]; simp
        · rw [Int.max_eq_left z]; simp
      · simp [e]
    · have hm : max n m ≤ ns.foldl max (max n m) := h2 _ List.mem_cons_self
      rcases List.mem_cons.mp hy with rfl | hy
      · exact Int.le_trans (Int.le_max_left _ _) hm
      · rcases List.mem_cons.mp hy with rfl | hy
        · exact Int.le_trans (Int.le_max_right _ _) hm
        · exact h2 y (List.mem_cons_of_mem _ hy)
def bestD (f : Int → Int → Int) : List D → Option D
  | [.lst xs] => (allQ D.int? xs).bind fun ns => (bestL f ns).map .int
  | [.int i, .int j] => some (.int (f i j))
  | _ => none
def maxD := bestD max
section
variable {X : Cx}
theorem call_maxD (hc : X.calm = true) : CallR X (.builtin "max") (rDs X.K maxD) := by
  intro pins s σ H xs us Q I r ⟨G, A, S, ds, z, R, hds, hgs, q⟩
  unfold maxD bestD at hgs
  split at hgs
  · rename_i ys
    obtain ⟨x, rfl, hd⟩ := hds.one
    obtain ⟨ns, en, e2⟩ := Option.bind_eq_some_iff.mp hgs
    obtain ⟨m, em, rfl⟩ := Option.map_eq_some_iff.mp e2
    obtain ⟨a, vs, rfl, s1, t1⟩ := hd.lstE R
    have ev := ints_rel t1 en
    subst ev
    cases ns with
    | nil => cases em
    | cons n ns =>
      cases em
      obtain ⟨k1, k2⟩ := fold_max ns n
      refine cr_max hc pins s σ H _ us Q I r ⟨a, n :: ns, rfl, s1.sq, by simp, fun m hm hy => ?_⟩
      have e : m = ns.foldl max n := Int.le_antisymm (k2 m hm) (hy _ k1)
      rw [e]
      exact q G H _ Ex.refl R (.int _)
  · rename_i i j
    cases hgs
    obtain ⟨x, y, rfl, hx, hy⟩ := hds.two
    rw [hx.intE, hy.intE] at r
    refine call_max2 hc pins s σ H _ us Q I r ⟨i, j, rfl, ?_⟩
    have e : (if j > i then j else i) = max i j := by
      by_cases h : j > i
      · rw [if_pos h, Int.max_eq_right (by omega)]
      · rw [if_neg h, Int.max_eq_left (by omega)]
    rw [e]
    exact q G H _ Ex.refl R (.int _)
  · cases hgs
end
/-! ## defaults that are tuples; operations of instances alone -/
theorem dfc_dn {K : PySem.W.Frag} {d : D} {a : Addr} (h : dIs K d (.ref a) = true) : ∀ G A, Dn K G A (.ref a) d := by
  obtain ⟨v, r, t⟩ := dIs_ok K d _ h
  cases v with
  | ref b =>
    cases (show Value.ref a = Value.ref b from r)
    exact t
  | non => cases (show Value.ref a = Value.none from r)
  | bl b => cases (show Value.ref a = Value.bool b from r)
  | int i => obtain ⟨_, e⟩ := (show ∃ t, Value.ref a = Value.int i t from r); cases e
  | str i => obtain ⟨_, e⟩ := (show ∃ t, Value.ref a = Value.str i t from r); cases e
  | byt i => obtain ⟨_, e⟩ := (show ∃ t, Value.ref a = Value.bytes i t from r); cases e
  | flt i => obtain ⟨_, e⟩ := (show ∃ t, Value.ref a = Value.float i t from r); cases e
  | ty n => cases (show Value.ref a = Value.type n from r)
/-- keywords and defaults -/
theorem bdd_kd {K : PySem.W.Frag} {fd : FuncData} {ps ks : List Str} {n : Nat} {gU : List Value → List Value → List Value} {gV : List V → List V → List V} {g : List D → List D → List D} (kb : KBn K fd ps n ks gU gV)
    (h3 : ∀ (G : Hp) (A : List Addr) (vs zs : List V) (ds es : List D), vs.length = n → zs.length = ks.length → DnAll K G A vs ds → DnAll K G A zs es → DnAll K G A (gV vs zs) (g ds es)) (h4 : ∀ (vs zs : List V), vs.length = n → zs.length = ks.length → (gV vs zs).length = ps.length) : BdD K fd ps n ks g :=
  ⟨gU, gV, fun s us ws a b c => kb.to s us ws a b c, fun vs zs us ws _ _ r1 r2 => kb.rel r1 r2, h3, h4⟩
end FL
end
section
set_option Elab.async false
set_option linter.all false
set_option maxRecDepth 100000
set_option autoImplicit false
set_option maxHeartbeats 4000000
namespace FL
open PySem PySem.Spec PyProof.Rows L2
/-! ## sorted(set(xs)) of ints, of any size up to 4000 -/
section
variable {P : Program} {w : World} {A : Around} {E : Value → Shared → Prop} {s : Shared} {a : Addr}
theorem sorted_setB {S : Int → Bool} {n : Nat} {Q : Value → Shared → Prop} (R : SetR w s.heap a S n) (hh : A.handled = none) (hz4 : n ≤ 4000)
    (hQ : ∀ s' p (out : Array Value) (c : Nat) (ns : List Int), (∀ b o, s.heap.get? b = some o → s'.heap.get? b = some o) → s'.gens = s.gens → s'.os = s.os → s.heap.objs.size ≤ p →
      s'.heap.get? p = some (seqObj "list" out c) → IntsAre out.toList ns → ns.Pairwise (· < ·) → (∀ k, k ∈ ns ↔ S k = true) → ns.length = n → Q (.ref p) s') :
    wpAny (model P w) A (call (.builtin "sorted") [.ref a]) Q E s := by
  obtain ⟨o, es, ep, t, ho, hex, hd, g, nd, hm, hb, hf, hn, hr, hl⟩ := R
  refine Calls.call_function_entry kind_sorted plain_sorted entry_sorted (args_sorted1 _) ?_
  unfold Builtin.«sorted»
  refine wpAny_bind (m := checkCount "sorted" 1 1 _) (wpAny_pure ?_)
  refine wpAny_bind (collect_set (A := A.in1) hh ⟨o, ho, hex.1, hd⟩ hf hb hr hl fun s1 vs k1 hz g1 o1 pm => ?_)
  have hvl : vs.length = n := by rw [pm.length_eq, List.length_map, Array.length_toList]; exact hn
  have hI : IntsAre vs (vs.map Builtin.Re.reRawOf) := ints_of vs fun v hv => by
    obtain ⟨e, he, q⟩ := List.mem_map.mp (pm.mem_iff.mp hv)
    obtain ⟨k, tk, h1, _⟩ := g e he
    exact ⟨k, tk, by rw [← q]; exact h1⟩
  have pk : (vs.map Builtin.Re.reRawOf).Perm (es.toList.map keyOf) := by
    have q := pm.map Builtin.Re.reRawOf
    rw [List.map_map] at q
    exact q
  have hz' : vs.length ≤ sizeLine := by rw [hvl, sizeLine_eq]; omega
  refine wpAny_bind (wpAny_newList ?_ hz')
  have hoL : (s1.heap.push (seqObj "list" vs.toArray 0)).get? s1.heap.objs.size = some (seqObj "list" vs.toArray 0) := Heap.get?_push_size _ rfl
  refine wpAny_bind (wpAny_holding (wpAny_call_entry slot_list_sort ⟨_, hoL, rfl⟩ entry_list_sort (SrtO.list_sort_ord (ltv := SrtO.ltIv) SrtO.swo_int hoL hz' (fun h2 => SrtO.ints_sortable hI h2) fun out a0 a1 => ⟨_, rfl, ?_⟩) (args_list_sort _)))
  obtain ⟨b1, b2, b3⟩ := SrtO.ints_out hI a0 a1
  obtain ⟨c, hc⟩ := sortedHeap_at (vs := vs) (out := out.toArray) hoL
  have pn : (out.map SrtO.iv).Perm (es.toList.map keyOf) := b2.trans pk
  refine wpAny_pure ⟨_, rfl, hQ _ s1.heap.objs.size out.toArray c (out.map SrtO.iv) (fun b u e => ?_) g1 o1 hz hc b1 (lt_of_le_nodup _ b3 (pn.nodup_iff.mpr nd)) (fun k => by rw [pn.mem_iff, ← hm k]) ?_⟩
  · have q := k1 b u e
    have hlt := Heap.lt_size q
    show (sortedHeap (s1.heap.push (seqObj "list" vs.toArray 0)) s1.heap.objs.size vs out.toArray).get? b = some u
    rw [sortedHeap_old (Nat.ne_of_lt hlt) (by rw [size_push']; exact Nat.lt_succ_of_lt hlt)]
    exact Heap.get?_push_of_some _ q
  · rw [pn.length_eq, List.length_map, Array.length_toList]; exact hn
end
/-- sorted(found), at most 4000 members -/
def rSortedSetB (w : World) : List V → Hp → VK → Prop := fun vs H Q => ∃ (a : Addr) (S : Int → Bool) (n : Nat), vs = [V.ref a] ∧ H a = some (SetO w a S n) ∧ n ≤ 4000 ∧
  ∀ (ns : List Int) (p : Addr), ns.Pairwise (· < ·) → (∀ k : Int, k ∈ ns ↔ S k = true) → ns.length = n → H p = none → Q (.ref p) (upd H p (.lst (ns.map V.int)))
theorem cr_sortedSetB {X : Cx} (hc : X.calm = true) : CallR X (.builtin "sorted") (rSortedSetB X.w) := by
  intro pins s σ H vs us Q I r h
  obtain ⟨a, S, n, rfl, ha, h64, q⟩ := h
  have R := setO_get I ha
  rw [Vals.ref1 r]
  refine sorted_setB R (I.ok.hd hc) h64 fun s' p out c ns k g o hp hg hi hs hm hl => ?_
  have hlen : (ns.map V.int).length ≤ sizeLine := by rw [List.length_map, hl, sizeLine_eq]; omega
  have hn : H p = none := I.hok.fresh hp
  have J : Inv X pins σ (upd H p (.lst (ns.map V.int))) { s with heap := s'.heap, gens := s'.gens, drawn := s'.drawn, toks := s'.toks } :=
    I.call (ch := []) (Un.laid k hp hn) (I.hok.laid k hp ⟨hlen, out.toList, c, vals_of_ints hi, hg⟩) (by rw [g]; exact I.bare) (fun _ z => nomatch z)
  have e : s' = { s with heap := s'.heap, gens := s'.gens, drawn := s'.drawn, toks := s'.toks } := by
    cases s'
    cases s
    cases o
    rfl
  rw [e]
  exact ⟨.ref p, _, J, rfl, q ns p hs hm hl hn⟩
def sortSetBD (d : D) : Option D := (intsOfD d).bind fun ns => if ns.length ≤ 4000 then some (.lst ((setI ns).map .int)) else none
section
variable {X : Cx} {EE : XK} {a : Expr} {fa : FEx} {p p2 q pos : Pos}
theorem fe_sortSetB (hc : X.calm = true) (hg : Gl X "sorted") (hm : X.mg "sorted" = none) (hv : bootBuiltins "sorted" = some (.builtin "sorted")) (hg2 : Gl X "set") (hm2 : X.mg "set" = none) (hv2 : bootBuiltins "set" = some (.type "set")) (ha : FE X EE a fa)
    (e1 : starEach [a] X.env = [(false, eval a X.env)] := by rfl) (e2 : starEach [Expr.Call (.Name "set" p2) [a] [] q] X.env = [(false, eval (.Call (.Name "set" p2) [a] [] q) X.env)] := by rfl) :
    FE X EE (.Call (.Name "sorted" p) [.Call (.Name "set" p2) [a] [] q] [] pos) (eUn sortSetBD fa) := by
  refine pe_weak (pe_callB (cr_sortedSetB hc) hg hm hv (pa_cons (pe_callTy (cr_setI hc) hg2 hm2 hv2 (pa_cons ha pa_nil e1) (he := e1)) pa_nil e2) (he := e2)) fun s H Q ⟨r, G, A, S, hr, hR, q0⟩ => ?_
  refine re_bnd hr hR q0 (fun _ _ z => z) fun G1 A1 H1 x d S1 a1 r1 R1 n1 q1 => ?_
  rw [post_opt] at q1
  obtain ⟨z, hz, q1⟩ := q1
  unfold sortSetBD at hz
  obtain ⟨ns, hn, hz⟩ := Option.bind_eq_some_iff.mp hz
  split at hz
  · rename_i hl
    cases hz
    obtain ⟨l, rfl, hq⟩ := intsOfD_eq R1 (R1.view n1) hn
    refine ⟨l, ns, rfl, hq, hl, fun p hp => ?_⟩
    have R2 := R1.beside (R1.free hp) (R1.notin hp) (SetO X.w p (fun j => decide (j ∈ ns)) (setI ns).length)
    refine ⟨p, _, _, rfl, upd_same, Nat.le_trans (setI_len ns) hl, fun ms b h1 h2 h3 hb => ?_⟩
    have em : ms = setI ns := lt_uniq h1 (setI_lt ns) fun j => by
      rw [h2 j, mem_setI]
      exact decide_eq_true_iff
    subst em
    have ee := R2.exNew hb (.lst ((setI ns).map V.int))
    exact q1 _ A1 _ _ ((a1.beside' hp _).trans ee) (R2.new hb _) (.lst (.inl (.of upd_same)) (dn_ints _))
  · cases hz
end
/-! ## xs.extend(ys), ys a frozen list -/
section
variable {X : Cx} {EE : XK}
def rExtendF (K : PySem.W.Frag) : V → List V → Hp → VK → Prop := fun x vs H Q => ∃ l b xs zs, x = .ref l ∧ vs = [.ref b] ∧ H l = some (.lst xs) ∧ LAt K H b zs ∧ xs.length + zs.length ≤ sizeLine ∧ Q .non (upd H l (.lst (xs ++ zs)))
theorem mt_extendF : MtM X "list.extend" (rExtendF X.K) := by
  intro pins s σ H x vs v us Q I rx rv h
  obtain ⟨l, b, xs, zs, rfl, rfl, hH, hB, hz, q⟩ := h
  cases rx
  obtain ⟨u, rfl, ru⟩ := rv.one
  cases ru
  obtain ⟨z, its, n, r, hl, e⟩ := I.lstM hH
  obtain ⟨z2, its2, n2, r2, hl2, e2⟩ := rd_lst I hB
  have hsz : its.toArray.size + its2.toArray.size ≤ sizeLine := by rw [List.size_toArray, List.size_toArray]; omega
  have hlong : ¬ (!its.toArray.isEmpty && Builtin.List.listTooLong (its.toArray.size + its2.toArray.size)) = true := by
    rw [notLongL hsz, Bool.and_false]
    exact Bool.false_ne_true
  refine call_meets F.slot_list_extend ⟨_, e, rfl⟩ F.entry_list_extend (F.args_list_extend_2 _ _)
    (AutoSeq1.list_extend_list_list_0 l its.toArray n b its2.toArray n2 hlong (by rw [List.size_toArray]; omega) (by omega)) ⟨e, e2, ?_⟩
  refine ⟨.non, _, I.lset (its' := its ++ its2) hH e (by simp) (r.append r2) ?_, rfl, q⟩
  rw [List.length_append]
  omega
def extendFD : Sto → Nat → Ob → List D → Option (D × Ob) := fun _ _ ob ds => match ob, ds with
  | .lst xs, [.lst zs] => if xs.length + zs.length ≤ 1000000 then some (.non, .lst (xs ++ zs)) else none
  | _, _ => none
theorem mut_extendF : MutD X "extend" ["list"] extendFD := by
  intro T hT
  obtain rfl : T = "list" := by simpa using hT
  refine ⟨"list.extend", ⟨F.plainAttrs_list, F.slot_list_extend, F.type_list_extend⟩, ?_⟩
  intro pins s σ H x xs v us Q I rx rv ⟨G, A, S, n, a, ob, ds, z, ob', R, ea, ex, eo, _, nd, hg, q⟩
  subst ex
  unfold extendFD at hg
  split at hg
  · rename_i ys zs _
    split at hg
    · rename_i hl
      cases hg
      obtain ⟨vs, e1, t⟩ := R.ob n a _ ea eo
      cases nd with
      | @cons w _ _ _ nw nn =>
        cases nn
        obtain ⟨b, ws, rfl, e2, t2⟩ := (Dv.of nw : Dv X.K G A H _ (.lst zs)).lstE R
        refine mt_extendF pins s σ H (.ref a) [.ref b] v us Q I rx rv ⟨a, b, vs, ws, rfl, rfl, e1, e2, by rw [t.length, t2.length]; exact Nat.le_trans hl (by decide), ?_⟩
        exact q _ _ (R.exWrite (dat R ea) _) (R.write ea (by rw [eo]; exact fun z => by cases z) ⟨_, upd_same, t.append t2⟩) .non
    · cases hg
  · cases hg
end
end FL
end
section
set_option Elab.async false
set_option linter.all false
set_option maxRecDepth 100000
set_option autoImplicit false
set_option maxHeartbeats 0
namespace K50
open PySem PySem.Spec PyProof.Rows L2 FL
def topS (i : Nat) : Stmt := PySem.Challenge.pw_samestamp_k50_moduli_told.main.body.getD i (.Pass ⟨0, 0, 0, 0⟩)
def clsB (s : Stmt) : List Stmt := match s with
  | .ClassDef _ _ _ b _ _ _ _ _ _ _ => b
  | _ => []
abbrev s__law_spring : Stmt := topS 51
abbrev s__law_dip : Stmt := topS 52
abbrev s__law_pick : Stmt := topS 53
abbrev s__law_gcd : Stmt := topS 54
abbrev s__law_drawn_set : Stmt := topS 57
abbrev s__law_lcm : Stmt := topS 55
abbrev s__law_least : Stmt := topS 56
abbrev s__law_in : Stmt := topS 58
abbrev s__law_other : Stmt := topS 61
abbrev s__law_wrapped : Stmt := topS 59
abbrev s__law_told : Stmt := topS 60
abbrev s_require_given : Stmt := topS 31
abbrev s_leasts_of : Stmt := topS 39
abbrev s_common_divisor : Stmt := topS 8
abbrev s_lcm_of : Stmt := topS 40
abbrev s_root_above : Stmt := topS 35
abbrev s_divisors_of : Stmt := topS 34
abbrev s_told_form_modulisets : Stmt := topS 41
abbrev s_is_integer : Stmt := topS 2
abbrev s_is_number : Stmt := topS 3
abbrev s_is_modulus : Stmt := topS 32
abbrev s_is_rising : Stmt := topS 5
abbrev s_are_moduli_in : Stmt := topS 36
abbrev s_are_closed : Stmt := topS 37
abbrev s_Moduli___init__ : Stmt := (clsB (topS 49)).getD 0 (.Pass ⟨0, 0, 0, 0⟩)
abbrev s_has_modulus : Stmt := topS 38
abbrev s_Moduli___contains__ : Stmt := (clsB (topS 49)).getD 9 (.Pass ⟨0, 0, 0, 0⟩)
abbrev s_multiples_to : Stmt := topS 45
abbrev s_many_to : Stmt := topS 46
abbrev s_nth_of : Stmt := topS 47
abbrev s_Moduli_least : Stmt := (clsB (topS 49)).getD 6 (.Pass ⟨0, 0, 0, 0⟩)
abbrev s_least_bits : Stmt := topS 48
abbrev s_Moduli_bits : Stmt := (clsB (topS 49)).getD 7 (.Pass ⟨0, 0, 0, 0⟩)
abbrev s_Moduli_all_from : Stmt := (clsB (topS 49)).getD 8 (.Pass ⟨0, 0, 0, 0⟩)
abbrev s_Moduli___getitem__ : Stmt := (clsB (topS 49)).getD 10 (.Pass ⟨0, 0, 0, 0⟩)
abbrev s__law_powers_right : Stmt := topS 62
abbrev s_Moduli___eq__ : Stmt := (clsB (topS 49)).getD 12 (.Pass ⟨0, 0, 0, 0⟩)
abbrev s_Moduli_form : Stmt := (clsB (topS 49)).getD 2 (.Pass ⟨0, 0, 0, 0⟩)
abbrev s_Moduli_period : Stmt := (clsB (topS 49)).getD 3 (.Pass ⟨0, 0, 0, 0⟩)
abbrev s_Moduli_divisors : Stmt := (clsB (topS 49)).getD 4 (.Pass ⟨0, 0, 0, 0⟩)
abbrev s_Moduli_exceptions : Stmt := (clsB (topS 49)).getD 5 (.Pass ⟨0, 0, 0, 0⟩)
abbrev s_law : Stmt := topS 63
def frs : List Str := ["all", "any", "bool", "enumerate", "int", "isinstance", "len", "list", "max", "range", "repr", "set", "sorted", "tuple", "zip"]
def cns : List (Str × D) := []
def d__law_spring : He.DefD := ⟨("_law_spring", none), "_law_spring", "_law_spring", defArgs s__law_spring, defBody s__law_spring, defScope s__law_spring, [], []⟩
def d__law_dip : He.DefD := ⟨("_law_dip", none), "_law_dip", "_law_dip", defArgs s__law_dip, defBody s__law_dip, defScope s__law_dip, [], []⟩
def d__law_pick : He.DefD := ⟨("_law_pick", none), "_law_pick", "_law_pick", defArgs s__law_pick, defBody s__law_pick, defScope s__law_pick, [], []⟩
def d__law_gcd : He.DefD := ⟨("_law_gcd", none), "_law_gcd", "_law_gcd", defArgs s__law_gcd, defBody s__law_gcd, defScope s__law_gcd, [], []⟩
def d__law_drawn_set : He.DefD := ⟨("_law_drawn_set", none), "_law_drawn_set", "_law_drawn_set", defArgs s__law_drawn_set, defBody s__law_drawn_set, defScope s__law_drawn_set, [], []⟩
def d__law_lcm : He.DefD := ⟨("_law_lcm", none), "_law_lcm", "_law_lcm", defArgs s__law_lcm, defBody s__law_lcm, defScope s__law_lcm, [], []⟩
def d__law_least : He.DefD := ⟨("_law_least", none), "_law_least", "_law_least", defArgs s__law_least, defBody s__law_least, defScope s__law_least, [], []⟩
def d__law_in : He.DefD := ⟨("_law_in", none), "_law_in", "_law_in", defArgs s__law_in, defBody s__law_in, defScope s__law_in, [], []⟩
def d__law_other : He.DefD := ⟨("_law_other", none), "_law_other", "_law_other", defArgs s__law_other, defBody s__law_other, defScope s__law_other, [], []⟩
def d__law_wrapped : He.DefD := ⟨("_law_wrapped", none), "_law_wrapped", "_law_wrapped", defArgs s__law_wrapped, defBody s__law_wrapped, defScope s__law_wrapped, [], []⟩
def d__law_told : He.DefD := ⟨("_law_told", none), "_law_told", "_law_told", defArgs s__law_told, defBody s__law_told, defScope s__law_told, [], []⟩
def d_require_given : He.DefD := ⟨("require_given", none), "require_given", "require_given", defArgs s_require_given, defBody s_require_given, defScope s_require_given, [.int (-1)], []⟩
def d_leasts_of : He.DefD := ⟨("leasts_of", none), "leasts_of", "leasts_of", defArgs s_leasts_of, defBody s_leasts_of, defScope s_leasts_of, [], []⟩
def d_common_divisor : He.DefD := ⟨("common_divisor", none), "common_divisor", "common_divisor", defArgs s_common_divisor, defBody s_common_divisor, defScope s_common_divisor, [], []⟩
def d_lcm_of : He.DefD := ⟨("lcm_of", none), "lcm_of", "lcm_of", defArgs s_lcm_of, defBody s_lcm_of, defScope s_lcm_of, [], []⟩
def d_root_above : He.DefD := ⟨("root_above", none), "root_above", "root_above", defArgs s_root_above, defBody s_root_above, defScope s_root_above, [], []⟩
def d_divisors_of : He.DefD := ⟨("divisors_of", none), "divisors_of", "divisors_of", defArgs s_divisors_of, defBody s_divisors_of, defScope s_divisors_of, [], []⟩
def d_told_form_modulisets : He.DefD := ⟨("told_form_modulisets", none), "told_form", "told_form", defArgs s_told_form_modulisets, defBody s_told_form_modulisets, defScope s_told_form_modulisets, [], []⟩
def d_is_integer : He.DefD := ⟨("is_integer", none), "is_integer", "is_integer", defArgs s_is_integer, defBody s_is_integer, defScope s_is_integer, [], []⟩
def d_is_number : He.DefD := ⟨("is_number", none), "is_number", "is_number", defArgs s_is_number, defBody s_is_number, defScope s_is_number, [], []⟩
def d_is_modulus : He.DefD := ⟨("is_modulus", none), "is_modulus", "is_modulus", defArgs s_is_modulus, defBody s_is_modulus, defScope s_is_modulus, [], []⟩
def d_is_rising : He.DefD := ⟨("is_rising", none), "is_rising", "is_rising", defArgs s_is_rising, defBody s_is_rising, defScope s_is_rising, [], []⟩
def d_are_moduli_in : He.DefD := ⟨("are_moduli_in", none), "are_moduli_in", "are_moduli_in", defArgs s_are_moduli_in, defBody s_are_moduli_in, defScope s_are_moduli_in, [], []⟩
def d_are_closed : He.DefD := ⟨("are_closed", none), "are_closed", "are_closed", defArgs s_are_closed, defBody s_are_closed, defScope s_are_closed, [], []⟩
def d_Moduli___init__ : He.DefD := ⟨("Moduli", some "__init__"), "__init__", "Moduli.__init__", defArgs s_Moduli___init__, defBody s_Moduli___init__, defScope s_Moduli___init__, [.int 1, .adr (He.dflAt ("Moduli", some "__init__") 1), .adr (He.dflAt ("Moduli", some "__init__") 2)], []⟩
def d_has_modulus : He.DefD := ⟨("has_modulus", none), "has_modulus", "has_modulus", defArgs s_has_modulus, defBody s_has_modulus, defScope s_has_modulus, [], []⟩
def d_Moduli___contains__ : He.DefD := ⟨("Moduli", some "__contains__"), "__contains__", "Moduli.__contains__", defArgs s_Moduli___contains__, defBody s_Moduli___contains__, defScope s_Moduli___contains__, [], []⟩
def d_multiples_to : He.DefD := ⟨("multiples_to", none), "multiples_to", "multiples_to", defArgs s_multiples_to, defBody s_multiples_to, defScope s_multiples_to, [], []⟩
def d_many_to : He.DefD := ⟨("many_to", none), "many_to", "many_to", defArgs s_many_to, defBody s_many_to, defScope s_many_to, [], []⟩
def d_nth_of : He.DefD := ⟨("nth_of", none), "nth_of", "nth_of", defArgs s_nth_of, defBody s_nth_of, defScope s_nth_of, [], []⟩
def d_Moduli_least : He.DefD := ⟨("Moduli", some "least"), "least", "Moduli.least", defArgs s_Moduli_least, defBody s_Moduli_least, defScope s_Moduli_least, [], []⟩
def d_least_bits : He.DefD := ⟨("least_bits", none), "least_bits", "least_bits", defArgs s_least_bits, defBody s_least_bits, defScope s_least_bits, [], []⟩
def d_Moduli_bits : He.DefD := ⟨("Moduli", some "bits"), "bits", "Moduli.bits", defArgs s_Moduli_bits, defBody s_Moduli_bits, defScope s_Moduli_bits, [], []⟩
def d_Moduli_all_from : He.DefD := ⟨("Moduli", some "all_from"), "all_from", "Moduli.all_from", defArgs s_Moduli_all_from, defBody s_Moduli_all_from, defScope s_Moduli_all_from, [], []⟩
def d_Moduli___getitem__ : He.DefD := ⟨("Moduli", some "__getitem__"), "__getitem__", "Moduli.__getitem__", defArgs s_Moduli___getitem__, defBody s_Moduli___getitem__, defScope s_Moduli___getitem__, [], []⟩
def d__law_powers_right : He.DefD := ⟨("_law_powers_right", none), "_law_powers_right", "_law_powers_right", defArgs s__law_powers_right, defBody s__law_powers_right, defScope s__law_powers_right, [], []⟩
def d_Moduli___eq__ : He.DefD := ⟨("Moduli", some "__eq__"), "__eq__", "Moduli.__eq__", defArgs s_Moduli___eq__, defBody s_Moduli___eq__, defScope s_Moduli___eq__, [], []⟩
def d_Moduli_form : He.DefD := ⟨("Moduli", some "form"), "form", "Moduli.form", defArgs s_Moduli_form, defBody s_Moduli_form, defScope s_Moduli_form, [], []⟩
def d_Moduli_period : He.DefD := ⟨("Moduli", some "period"), "period", "Moduli.period", defArgs s_Moduli_period, defBody s_Moduli_period, defScope s_Moduli_period, [], []⟩
def d_Moduli_divisors : He.DefD := ⟨("Moduli", some "divisors"), "divisors", "Moduli.divisors", defArgs s_Moduli_divisors, defBody s_Moduli_divisors, defScope s_Moduli_divisors, [], []⟩
def d_Moduli_exceptions : He.DefD := ⟨("Moduli", some "exceptions"), "exceptions", "Moduli.exceptions", defArgs s_Moduli_exceptions, defBody s_Moduli_exceptions, defScope s_Moduli_exceptions, [], []⟩
def d_law : He.DefD := ⟨("law", none), "law", "law", defArgs s_law, defBody s_law, defScope s_law, [], []⟩
def dfs : List He.DefD := [d__law_spring, d__law_dip, d__law_pick, d__law_gcd, d__law_drawn_set, d__law_lcm, d__law_least, d__law_in, d__law_other, d__law_wrapped, d__law_told, d_require_given, d_leasts_of, d_common_divisor, d_lcm_of, d_root_above, d_divisors_of, d_is_integer, d_is_number, d_is_modulus, d_is_rising, d_are_moduli_in, d_are_closed, d_has_modulus, d_multiples_to, d_many_to, d_nth_of, d_least_bits, d__law_powers_right, d_law]
def mdf : List He.DefD := [d_told_form_modulisets, d_Moduli___init__, d_Moduli___contains__, d_Moduli___getitem__, d_Moduli___eq__]
def gdf : List GpD := [(("Moduli", "least", "property"), d_Moduli_least), (("Moduli", "bits", "property"), d_Moduli_bits), (("Moduli", "all_from", "property"), d_Moduli_all_from), (("Moduli", "form", "property"), d_Moduli_form), (("Moduli", "period", "property"), d_Moduli_period), (("Moduli", "divisors", "property"), d_Moduli_divisors), (("Moduli", "exceptions", "property"), d_Moduli_exceptions)]
def crs : List CRow := [⟨"Moduli", ["Moduli"], true, ["__init__", "__contains__", "__getitem__", "__eq__"], ["least", "bits", "all_from", "form", "period", "divisors", "exceptions"], ["own_form"]⟩]
def csn : List Str := ["Moduli"]
def aln : List Str := ["told_form_modulisets"]
def cms : List (Str × Str) := []
def mcl : List (Str × Str) := [("Moduli", "__init__"), ("Moduli", "__contains__"), ("Moduli", "least"), ("Moduli", "bits"), ("Moduli", "all_from"), ("Moduli", "__getitem__"), ("Moduli", "__eq__"), ("Moduli", "form"), ("Moduli", "period"), ("Moduli", "divisors"), ("Moduli", "exceptions")]
def dfc : List ((Str × Option Str) × Nat × D) := [(("Moduli", some "__init__"), 1, .tup [.int 1]), (("Moduli", some "__init__"), 2, .tup [])]
def ns0 : List PySem.Str := ["_wall", "is_integer", "is_number", "is_rising", "is_number_set", "holds_gap", "common_divisor", "least_period", "told_form", "told_form_gapforms", "flags_of", "same_forms", "combined_form", "moved_form", "lies_within", "late_gaps", "gap_at_index", "StampError", "ProgramError", "NotUsable", "NOTHING", "listed", "gap_words", "require_gap_form", "GapSet", "require_given", "is_modulus", "divisors_of", "root_above", "are_moduli_in"]
def ns1 : List PySem.Str := ["are_closed", "has_modulus", "leasts_of", "lcm_of", "told_form_modulisets", "common_form", "form_of_gaps", "multiples_to", "many_to", "nth_of", "least_bits", "Moduli", "_law_spring", "_law_dip", "_law_pick", "_law_gcd", "_law_lcm", "_law_least", "_law_drawn_set", "_law_in", "_law_wrapped", "_law_told", "_law_other", "_law_powers_right"]
def loose : List PySem.Str := ns0 ++ ns1
def fas : List He.Fa := [.glo "_law_spring", .glo "_law_dip", .glo "_law_pick", .glo "_law_gcd", .glo "_law_drawn_set", .glo "_law_lcm", .glo "_law_least", .glo "_law_in", .glo "_law_other", .glo "_law_wrapped", .glo "_law_told", .glo "require_given", .glo "leasts_of", .glo "common_divisor", .glo "lcm_of", .glo "root_above", .glo "divisors_of", .glo "is_integer", .glo "is_number", .glo "is_modulus", .glo "is_rising", .glo "are_moduli_in", .glo "are_closed", .glo "has_modulus", .glo "multiples_to", .glo "many_to", .glo "nth_of", .glo "least_bits", .glo "_law_powers_right", .glo "law", .glo "told_form_modulisets", .glo "Moduli"] ++ [.free "all", .free "any", .free "bool", .free "enumerate", .free "int", .free "isinstance", .free "len", .free "list", .free "max", .free "range", .free "repr", .free "set", .free "sorted", .free "tuple", .free "zip"]
def cok (K : PySem.W.Frag) : Bool := cns.all (conIs K) && (crs.all (fun r => (cBs K csn r).all id) && (cms.all (cmB K) && dfc.all (fun q => dIs K q.2.2 (.ref (He.dflAt q.1 q.2.1 K)))))
abbrev RR : PySem.W.OpenRow := PySem.W.OpenLaw.row PySem.Challenge.rw_samestamp_k50_moduli_told
abbrev hk : PySem.W.Hook := FL.hookZ 2 fas (dfs ++ mdf) [] [] cok [] [] mcl gdf
def ob (s : PySem.W.SharedT) : FL.AlZ := FL.obsZ fas (dfs ++ mdf) [] [] cok [] gdf (He.frT (HandSHeadRun.getT s) (FL.asZ 2 [] mcl (HandSHeadRun.getT s))) (HandSHeadRun.getT s)
theorem ob_eq (s : PySem.W.SharedT) : ob s = hk.obs s.abs := FL.obsZ_eq (HandSHeadRun.getT_eq s)
theorem opt3 {α β γ δ : Type} {o : Option α} {f : α → β} {g : α → γ} {h : α → δ} {a : β} {b : γ} {c : δ} (h1 : o.map f = some a) (h2 : o.map g = some b) (h3 : o.map h = some c) : o.map (fun s => (f s, g s, h s)) = some (a, b, c) := by
  cases o with
  | none => cases h1
  | some s =>
    injection h1 with h1
    injection h2 with h2
    injection h3 with h3
    show some (f s, g s, h s) = _
    rw [h1, h2, h3]
section
open PySem.W HandSHeadRun
abbrev Qv : Program := view RR.prog [63]
theorem run1 (w : World) (os : OsState) : (endF (stepQ (denQ tabQ) RR.prog w) 6000 RR.prog w os).map (fun s => looksF RR.prog (boot_heap w.params) s.abs) = some true := by kernel_rfl
theorem run2 (w : World) (os : OsState) : (endF (stepQ (denQ tabQ) RR.prog w) 6000 RR.prog w os).map (fun s => seenQ Qv loose (importedModules RR.prog.main.body) (fun s => xlAt Qv [] s && recOk RR.toRowW.records s) s.abs) = some (openGood Qv loose) := by kernel_rfl
theorem run3 (w : World) (os : OsState) : (endF (stepQ (denQ tabQ) RR.prog w) 6000 RR.prog w os).map (fun s => ob s) = some (hk.val w) := by kernel_rfl
end
theorem run (w : World) : HandSHeadRun.RunEq RR (PySem.W.view RR.prog [63]) hk ob 6000 loose w := fun os => opt3 (run1 w os) (run2 w os) (run3 w os)
end K50
end
section
set_option Elab.async false
set_option linter.all false
set_option maxRecDepth 100000
set_option autoImplicit false
set_option maxHeartbeats 2000000
namespace SS
open PySem PySem.Spec PyProof.Rows L2 FL
noncomputable def B_is_integer : FSx := (sRet (eAnd2 (eUn (isiD .int) (eVar 0)) (eNot1 (eUn (isiD .bool) (eVar 0)))))
noncomputable def B_is_number (F_is_integer : List D → M D) : FSx := (sRet (eAnd2 (eCall 1 0 gAll F_is_integer (aCons (eVar 0) aNil) aNil) (eBin geD (eVar 0) (eC (.int 0)))))
noncomputable def B_require_given : FSx := (sIf (tNot1 (asT (eVar 0))) sNo sNext)
end SS
end
section
set_option Elab.async false
set_option linter.all false
set_option maxRecDepth 100000
set_option autoImplicit false
set_option maxHeartbeats 2000000
namespace SS
open PySem PySem.Spec PyProof.Rows L2 FL
noncomputable def B_Moduli___contains__ (F_has_modulus F_is_modulus : List D → M D) : FSx := (sRet (eAnd2 (eCall 1 0 gAll F_is_modulus (aCons (eVar 1) aNil) aNil) (eCall 2 0 gAll F_has_modulus (aCons (eFld ["Moduli"] "own_form" (eVar 0)) (aCons (eVar 1) aNil)) aNil)))
noncomputable def B_Moduli___eq__ : FSx := (sRet (eAnd2 (eIsO [("Moduli", true)] (eVar 1)) (eBin eqD (eFld ["Moduli"] "own_form" (eVar 0)) (eFld ["Moduli"] "own_form" (eVar 1)))))
noncomputable def B_Moduli___getitem__ (F_is_number F_nth_of F_require_given : List D → M D) : FSx := (sSeq (sExpr (eCall 2 0 (gDef [.int (-1)]) F_require_given (aCons (eAnd2 (eCall 1 0 gAll F_is_number (aCons (eVar 1) aNil) aNil) (eBin gtD (eCallP lenD (aCons (eBin ixD (eFld ["Moduli"] "own_form" (eVar 0)) (eC (.int 1))) aNil)) (eC (.int 0)))) (aCons (eC (.str "k")) aNil)) aNil)) (sRet (eCall 2 0 gAll F_nth_of (aCons (eFld ["Moduli"] "own_form" (eVar 0)) (aCons (eVar 1) aNil)) aNil)))
noncomputable def B_Moduli___init___E1 (F_are_closed F_are_moduli_in F_common_divisor F_is_modulus F_require_given F_told_form_modulisets : List D → M D) : FEx := (eBin inD (eCall 2 0 gAll F_common_divisor (aCons (eVar 5) (aCons (eVar 1) aNil)) aNil) (eVar 2))
noncomputable def B_Moduli___init__ (F_are_closed F_are_moduli_in F_common_divisor F_is_modulus F_require_given F_told_form_modulisets : List D → M D) : FSx := (sSeq (sExpr (eCall 2 0 (gDef [.int (-1)]) F_require_given (aCons (eCall 1 0 gAll F_is_modulus (aCons (eVar 1) aNil) aNil) (aCons (eC (.str "period")) aNil)) aNil)) (sSeq (sExpr (eCall 2 0 (gDef [.int (-1)]) F_require_given (aCons (eCall 2 0 gAll F_are_closed (aCons (eVar 1) (aCons (eVar 2) aNil)) aNil) (aCons (eC (.str "divisors")) aNil)) aNil)) (sSeq (sAsg (eAnd2 (eCall 1 0 gAll F_are_moduli_in (aCons (eVar 3) aNil) aNil) (eCallP allD (aCons (eComp [5] (iSeqD (eVar 3)) (gName' 5) tTrue (B_Moduli___init___E1 F_are_closed F_are_moduli_in F_common_divisor F_is_modulus F_require_given F_told_form_modulisets)) aNil))) (gName' 4)) (sSeq (sExpr (eCall 2 0 (gDef [.int (-1)]) F_require_given (aCons (eVar 4) (aCons (eC (.str "exceptions")) aNil)) aNil)) (sFldM ["Moduli"] "own_form" (eVar 0) (eCall 3 0 gAll F_told_form_modulisets (aCons (eVar 1) (aCons (eVar 2) (aCons (eVar 3) aNil))) aNil))))))
noncomputable def B_Moduli_all_from : FSx := (sSeq (sAsg (eFld ["Moduli"] "own_form" (eVar 0)) (gTup' 3 (gsCons (gName' 1) (gsCons (gName' 2) (gsCons (gName' 3) gsNil))))) (sSeq (sIf (asB (eBin neD (eVar 2) (eTup (aCons (eC (.int 1)) aNil)))) (sRet (eC .non)) sNext) (sRet (eIf (asT (eVar 3)) (eBin addD (eBin ixD (eVar 3) (eUn negD (eC (.int 1)))) (eC (.int 1))) (eC (.int 1))))))
noncomputable def B_Moduli_bits (F_least_bits : List D → M D) : FSx := (sRet (eCall 1 0 gAll F_least_bits (aCons (eFld ["Moduli"] "own_form" (eVar 0)) aNil) aNil))
noncomputable def B_Moduli_divisors : FSx := (sRet (eBin ixD (eFld ["Moduli"] "own_form" (eVar 0)) (eC (.int 1))))
noncomputable def B_Moduli_exceptions : FSx := (sRet (eBin ixD (eFld ["Moduli"] "own_form" (eVar 0)) (eC (.int 2))))
noncomputable def B_Moduli_form : FSx := (sRet (eFld ["Moduli"] "own_form" (eVar 0)))
noncomputable def B_Moduli_least (F_nth_of : List D → M D) : FSx := (sRet (eIf (asB (eBin eqD (eCallP lenD (aCons (eBin ixD (eFld ["Moduli"] "own_form" (eVar 0)) (eC (.int 1))) aNil)) (eC (.int 0)))) (eC .non) (eCall 2 0 gAll F_nth_of (aCons (eFld ["Moduli"] "own_form" (eVar 0)) (aCons (eC (.int 0)) aNil)) aNil)))
noncomputable def B_Moduli_period : FSx := (sRet (eBin ixD (eFld ["Moduli"] "own_form" (eVar 0)) (eC (.int 0))))
noncomputable def B__law_dip : FSx := (sSeq (sAsg (eBin addD (eBin ixD (eVar 0) (eC (.str "count"))) (eC (.int 1))) (gName' 2)) (sSeq (sAsg (eVar 2) (gSub' (eVar 0) (eC (.str "count")))) (sSeq (sIf (asB (eBin gtD (eBin ixD (eVar 0) (eC (.str "rest"))) (eC (.int 0)))) (sSeq (sAsg (eBin modD (eCallP intD (aCons (eBin ixD (eVar 0) (eC (.str "rest"))) aNil)) (eVar 1)) (gName' 3)) (sSeq (sAsg (eBin fdivD (eBin ixD (eVar 0) (eC (.str "rest"))) (eVar 1)) (gSub' (eVar 0) (eC (.str "rest")))) (sRet (eVar 3)))) sNext) (sSeq (sAsg (eBin ixD (eVar 0) (eC (.str "place"))) (gName' 4)) (sSeq (sAsg (eBin addD (eVar 4) (eC (.int 1))) (gSub' (eVar 0) (eC (.str "place")))) (sSeq (sAsg (eC (.int 108831)) (gName' 5)) (sSeq (sIf (asB (eBin neD (eBin ixD (eVar 0) (eC (.str "cells"))) (eLst aNil))) (sAsg (eBin ixD (eBin ixD (eVar 0) (eC (.str "cells"))) (eBin modD (eCallP intD (aCons (eVar 4) aNil)) (eCallP lenD (aCons (eBin ixD (eVar 0) (eC (.str "cells"))) aNil)))) (gName' 5)) sNext) (sSeq (sIf (tAnd2 (asB (eBin geD (eVar 5) (eBin powD (eC (.int 10)) (eC (.int 18))))) (asB (eBin ltD (eVar 4) (eCallP lenD (aCons (eBin ixD (eVar 0) (eC (.str "cells"))) aNil))))) (sSeq (sAsg (eBin fdivD (eVar 5) (eVar 1)) (gSub' (eVar 0) (eC (.str "rest")))) (sRet (eBin modD (eCallP intD (aCons (eVar 5) aNil)) (eVar 1)))) sNext) (sSeq (sAsg (eBin modD (eCallP intD (aCons (eBin powD (eBin addD (eBin addD (eBin modD (eCallP intD (aCons (eVar 5) aNil)) (eC (.int 2147483353))) (eBin mulD (eC (.int 7019)) (eVar 2))) (eC (.int 131))) (eC (.int 3))) aNil)) (eC (.int 2147483647))) (gName' 6)) (sSeq (sAsg (eBin modD (eCallP intD (aCons (eBin powD (eBin addD (eVar 6) (eBin mulD (eC (.int 50033)) (eVar 2))) (eC (.int 5))) aNil)) (eC (.int 2147483587))) (gName' 6)) (sRet (eBin modD (eCallP intD (aCons (eBin fdivD (eVar 6) (eC (.int 128))) aNil)) (eVar 1)))))))))))))
noncomputable def B__law_drawn_set_T1 (F__law_dip F__law_gcd F__law_pick : List D → M D) : FTx := (asB (eBin eqD (eBin modD (eCallP intD (aCons (eVar 1) aNil)) (eVar 7)) (eC (.int 0))))
noncomputable def B__law_drawn_set_T2 (F__law_dip F__law_gcd F__law_pick : List D → M D) : FTx := (asB (eBin eqD (eCall 2 0 gAll F__law_dip (aCons (eVar 0) (aCons (eC (.int 4)) aNil)) aNil) (eC (.int 0))))
noncomputable def B__law_drawn_set_T3 (F__law_dip F__law_gcd F__law_pick : List D → M D) : FTx := (asB (eBin eqD (eBin modD (eCallP intD (aCons (eVar 7) aNil)) (eVar 10)) (eC (.int 0))))
noncomputable def B__law_drawn_set_T4 (F__law_dip F__law_gcd F__law_pick : List D → M D) : FTx := (asB (eBin neD (eComp [10] (iSeqD (eVar 3)) (gName' 10) (B__law_drawn_set_T3 F__law_dip F__law_gcd F__law_pick) (eVar 10)) (eLst aNil)))
noncomputable def B__law_drawn_set_E1 (F__law_dip F__law_gcd F__law_pick : List D → M D) : FEx := (eBin addD (eC (.int 1)) (eCall 2 0 gAll F__law_dip (aCons (eVar 0) (aCons (eBin ixD (eLst (aCons (eC (.int 12)) (aCons (eC (.int 12)) (aCons (eC (.int 40)) (aCons (eC (.int 300)) aNil))))) (eVar 8)) aNil)) aNil))
noncomputable def B__law_drawn_set_T5 (F__law_dip F__law_gcd F__law_pick : List D → M D) : FTx := (asB (eBin inD (eCall 2 0 gAll F__law_gcd (aCons (eVar 9) (aCons (eVar 1) aNil)) aNil) (eVar 4)))
noncomputable def B__law_drawn_set (F__law_dip F__law_gcd F__law_pick : List D → M D) : FSx := (sSeq (sAsg (eCall 2 0 gAll F__law_pick (aCons (eVar 0) (aCons (eLst (aCons (eC (.int 1)) (aCons (eC (.int 1)) (aCons (eC (.int 2)) (aCons (eC (.int 3)) (aCons (eC (.int 4)) (aCons (eC (.int 6)) (aCons (eC (.int 8)) (aCons (eC (.int 9)) (aCons (eC (.int 12)) (aCons (eC (.int 18)) (aCons (eC (.int 24)) (aCons (eC (.int 30)) (aCons (eC (.int 60)) aNil)))))))))))))) aNil)) aNil) (gName' 1)) (sSeq (sAsg (eComp [7] (iRange rangeD2 (aCons (eC (.int 1)) (aCons (eBin addD (eVar 1) (eC (.int 1))) aNil))) (gName' 7) (B__law_drawn_set_T1 F__law_dip F__law_gcd F__law_pick) (eVar 7)) (gName' 2)) (sSeq (sAsg (eBin addD (eComp [7] (iSeqD (eVar 2)) (gName' 7) (B__law_drawn_set_T2 F__law_dip F__law_gcd F__law_pick) (eVar 7)) (eBin mulD (eLst (aCons (eCall 2 0 gAll F__law_pick (aCons (eVar 0) (aCons (eVar 2) aNil)) aNil) aNil)) (eCallP intD (aCons (eBin gtD (eCall 2 0 gAll F__law_dip (aCons (eVar 0) (aCons (eC (.int 6)) aNil)) aNil) (eC (.int 0))) aNil)))) (gName' 3)) (sSeq (sAsg (eComp [7] (iSeqD (eVar 2)) (gName' 7) (B__law_drawn_set_T4 F__law_dip F__law_gcd F__law_pick) (eVar 7)) (gName' 4)) (sSeq (sAsg (eSl (eComp [8] (iRange rangeD1 (aCons (eC (.int 4)) aNil)) (gName' 8) tTrue (B__law_drawn_set_E1 F__law_dip F__law_gcd F__law_pick)) oNone (oSome (eCall 2 0 gAll F__law_dip (aCons (eVar 0) (aCons (eC (.int 5)) aNil)) aNil))) (gName' 5)) (sSeq (sIf (asB (eBin eqD (eCall 2 0 gAll F__law_dip (aCons (eVar 0) (aCons (eC (.int 6)) aNil)) aNil) (eC (.int 0)))) (sAsg (eBin addD (eVar 5) (eLst (aCons (eC (.int 1)) (aCons (eC (.int 2)) (aCons (eC (.int 3)) (aCons (eC (.int 4)) (aCons (eC (.int 5)) (aCons (eC (.int 6)) aNil)))))))) (gName' 5)) sNext) (sSeq (sAsg (eUn sortSetBD (eComp [9] (iSeqD (eVar 5)) (gName' 9) (B__law_drawn_set_T5 F__law_dip F__law_gcd F__law_pick) (eVar 9))) (gName' 6)) (sRet (eTup (aCons (eVar 1) (aCons (eCallP tupleD (aCons (eVar 4) aNil)) (aCons (eCallP tupleD (aCons (eVar 6) aNil)) aNil))))))))))))
noncomputable def B__law_gcd_L1 : FSx := (sSeq (sIf (asB (eBin eqD (eVar 1) (eC (.int 0)))) (sRet (eVar 0)) sNext) (sPar 0 1 (aCons (eVar 1) (aCons (eBin modD (eCallP intD (aCons (eVar 0) aNil)) (eVar 1)) aNil))))
noncomputable def B__law_gcd : FSx := (sSeq (sFor (iRange rangeD1 (aCons (eC (.int 400)) aNil)) (gName' 2) B__law_gcd_L1) (sRet (eVar 0)))
noncomputable def B__law_in (F__law_gcd : List D → M D) : FSx := (sRet (eAnd2 (eBin gtD (eVar 1) (eC (.int 0))) (eAnd2 (eBin inD (eCall 2 0 gAll F__law_gcd (aCons (eVar 1) (aCons (eBin ixD (eVar 0) (eC (.int 0))) aNil)) aNil) (eBin ixD (eVar 0) (eC (.int 1)))) (eBin notInD (eVar 1) (eBin ixD (eVar 0) (eC (.int 2)))))))
noncomputable def B__law_lcm_L1 (F__law_gcd : List D → M D) : FSx := (sAsg (eBin fdivD (eBin mulD (eVar 1) (eVar 2)) (eCall 2 0 gAll F__law_gcd (aCons (eVar 1) (aCons (eVar 2) aNil)) aNil)) (gName' 1))
noncomputable def B__law_lcm (F__law_gcd : List D → M D) : FSx := (sSeq (sAsg (eC (.int 1)) (gName' 1)) (sSeq (sFor (iSeqD (eVar 0)) (gName' 2) (B__law_lcm_L1 F__law_gcd)) (sRet (eVar 1))))
noncomputable def B__law_least_T1 (F__law_lcm : List D → M D) : FTx := (tAnd2 (asB (eBin ltD (eVar 6) (eVar 5))) (asB (eBin eqD (eBin modD (eCallP intD (aCons (eVar 5) aNil)) (eVar 6)) (eC (.int 0)))))
noncomputable def B__law_least_T2 (F__law_lcm : List D → M D) : FTx := (asB (eBin eqD (eComp [6] (iSeqD (eVar 1)) (gName' 6) (B__law_least_T1 F__law_lcm) (eVar 6)) (eLst aNil)))
noncomputable def B__law_least_T3 (F__law_lcm : List D → M D) : FTx := (asB (eBin eqD (eBin modD (eCallP intD (aCons (eVar 4) aNil)) (eVar 5)) (eC (.int 0))))
noncomputable def B__law_least (F__law_lcm : List D → M D) : FSx := (sSeq (sAsg (eComp [5] (iSeqD (eVar 1)) (gName' 5) (B__law_least_T2 F__law_lcm) (eVar 5)) (gName' 3)) (sSeq (sAsg (eIf (asB (eBin neD (eVar 1) (eLst aNil))) (eCall 1 0 gAll F__law_lcm (aCons (eVar 3) aNil) aNil) (eC (.int 1))) (gName' 4)) (sRet (eTup (aCons (eVar 4) (aCons (eCallP tupleD (aCons (eComp [5] (iSeqD (eVar 1)) (gName' 5) (B__law_least_T3 F__law_lcm) (eVar 5)) aNil)) (aCons (eCallP tupleD (aCons (eUn sortSetBD (eVar 2)) aNil)) aNil)))))))
noncomputable def B__law_other_T1 (F__law_gcd F__law_in : List D → M D) : FTx := (asT (eCall 2 0 gAll F__law_in (aCons (eVar 1) (aCons (eVar 8) aNil)) aNil))
noncomputable def B__law_other_T2 (F__law_gcd F__law_in : List D → M D) : FTx := (asB (eBin inD (eCall 2 0 gAll F__law_gcd (aCons (eVar 8) (aCons (eVar 2) aNil)) aNil) (eVar 7)))
noncomputable def B__law_other (F__law_gcd F__law_in : List D → M D) : FSx := (sSeq (sAsg (eVar 1) (gTup' 3 (gsCons (gName' 2) (gsCons (gName' 3) (gsCons (gName' 4) gsNil))))) (sSeq (sAsg (eSl (eComp [8] (iRange rangeD2 (aCons (eC (.int 1)) (aCons (eC (.int 400)) aNil))) (gName' 8) (B__law_other_T1 F__law_gcd F__law_in) (eVar 8)) oNone (oSome (eC (.int 1)))) (gName' 5)) (sSeq (sAsg (eIf (asB (eBin neD (eVar 5) (eLst aNil))) (eNewL (aCons (eTup (aCons (eVar 2) (aCons (eVar 3) (aCons (eCallP tupleD (aCons (eCallP sortIntD (aCons (eBin addD (eCallP listD (aCons (eVar 4) aNil)) (eVar 5)) aNil)) aNil)) aNil)))) aNil)) (eNewL aNil)) (gName' 6)) (sSeq (sIf (asB (eBin neD (eVar 4) (eTup aNil))) (sExpr (eMut ["list"] appendD (eVar 6) (aCons (eTup (aCons (eVar 2) (aCons (eVar 3) (aCons (eSl (eVar 4) (oSome (eC (.int 1))) oNone) aNil)))) aNil))) sNext) (sSeq (sIf (tAnd2 (asB (eBin gtD (eCallP lenD (aCons (eVar 3) aNil)) (eC (.int 0)))) (asB (eBin ltD (eBin ixD (eVar 3) (eC (.int 0))) (eVar 2)))) (sSeq (sAsg (eSl (eVar 3) (oSome (eC (.int 1))) oNone) (gName' 7)) (sExpr (eMut ["list"] appendD (eVar 6) (aCons (eTup (aCons (eVar 2) (aCons (eVar 7) (aCons (eCallP tupleD (aCons (eComp [8] (iSeqD (eVar 4)) (gName' 8) (B__law_other_T2 F__law_gcd F__law_in) (eVar 8)) aNil)) aNil)))) aNil)))) sNext) (sRet (eVar 6)))))))
noncomputable def B__law_pick_1 (F__law_dip : List D → M D) : FSx := (sRet (eBin ixD (eVar 1) (eCall 2 0 gAll F__law_dip (aCons (eVar 0) (aCons (eCallP lenD (aCons (eVar 1) aNil)) aNil)) aNil)))
noncomputable def B__law_powers_right_L1 (F_Moduli___contains__ F_Moduli___getitem__ F_Moduli___init__ F_Moduli_all_from F_Moduli_bits F_Moduli_least : List D → M D) : FSx := (sExpr (eMut ["list"] appendD (eVar 0) (aCons (eBin mulD (eBin ixD (eVar 0) (eUn negD (eC (.int 1)))) (eC (.int 2))) aNil)))
noncomputable def B__law_powers_right (F_Moduli___contains__ F_Moduli___getitem__ F_Moduli___init__ F_Moduli_all_from F_Moduli_bits F_Moduli_least : List D → M D) : FSx := (sSeq (sAsg (eNewL (aCons (eC (.int 1)) aNil)) (gName' 0)) (sSeq (sFor (iRange rangeD1 (aCons (eC (.int 69)) aNil)) (gName' 1) (B__law_powers_right_L1 F_Moduli___contains__ F_Moduli___getitem__ F_Moduli___init__ F_Moduli_all_from F_Moduli_bits F_Moduli_least)) (sSeq (sAsg (eMake "Moduli" 3 0 (gDef []) F_Moduli___init__ (aCons (eC (.int 1)) (aCons (eTup (aCons (eC (.int 1)) aNil)) (aCons (eCallP tupleD (aCons (eVar 0) aNil)) aNil))) aNil) (gName' 2)) (sSeq (sIf (asB (eBin neD (eCallP reprD (aCons (eLst (aCons (eAttrM [("Moduli", F_Moduli_least)] [] "least" (eVar 2)) (aCons (eAttrM [("Moduli", F_Moduli_bits)] [] "bits" (eVar 2)) (aCons (eAttrM [("Moduli", F_Moduli_all_from)] [] "all_from" (eVar 2)) (aCons (eBinM (hIx [("Moduli", F_Moduli___getitem__)] ixD) (eVar 2) (eC (.int 0))) aNil))))) aNil)) (eCallP reprD (aCons (eLst (aCons (eC (.int 3)) (aCons (eC (.int 70)) (aCons (eBin addD (eBin ixD (eVar 0) (eUn negD (eC (.int 1)))) (eC (.int 1))) (aCons (eC (.int 3)) aNil))))) aNil)))) (sRet (eC (.bl false))) sNext) (sRet (eBinM (hIn true [("Moduli", F_Moduli___contains__)] notInD) (eBin ixD (eVar 0) (eUn negD (eC (.int 1)))) (eVar 2)))))))
noncomputable def B__law_spring : FSx := (sRet (eDisp [((eC (.str "cells")), (eCallP listD (aCons (eSl (eVar 0) oNone (oSome (eC (.int 60)))) aNil))), ((eC (.str "place")), (eC (.int 0))), ((eC (.str "rest")), (eC (.int 0))), ((eC (.str "count")), (eC (.int 0)))]))
noncomputable def B__law_told_1_T1 (F__law_in : List D → M D) : FTx := (asT (eCall 2 0 gAll F__law_in (aCons (eVar 0) (aCons (eVar 7) aNil)) aNil))
noncomputable def B__law_told_1_L1 (F__law_in : List D → M D) : FSx := (sSeq (sExpr (eMut ["list"] extendFD (eVar 3) (aCons (eIf (asT (eCall 2 0 gAll F__law_in (aCons (eVar 0) (aCons (eVar 4) aNil)) aNil)) (eLst (aCons (eVar 5) aNil)) (eLst aNil)) aNil))) (sAsg (eBin mulD (eVar 4) (eC (.int 2))) (gName' 4)))
noncomputable def B__law_told_1 (F__law_in : List D → M D) : FSx := (sSeq (sAsg (eBin addD (eBin addD (eCallP maxD (aCons (eBin addD (eLst (aCons (eC (.int 0)) aNil)) (eCallP listD (aCons (eBin ixD (eVar 0) (eC (.int 2))) aNil))) aNil)) (eBin mulD (eC (.int 2)) (eBin ixD (eVar 0) (eC (.int 0))))) (eC (.int 2))) (gName' 1)) (sSeq (sAsg (eComp [7] (iRange rangeD2 (aCons (eC (.int 1)) (aCons (eVar 1) aNil))) (gName' 7) (B__law_told_1_T1 F__law_in) (eVar 7)) (gName' 2)) (sSeq (sPar 3 4 (aCons (eNewL aNil) (aCons (eC (.int 1)) aNil))) (sSeq (sFor (iRange rangeD1 (aCons (eC (.int 14)) aNil)) (gName' 5) (B__law_told_1_L1 F__law_in)) (sSeq (sAsg (eIf (asB (eBin inD (eC (.int 1)) (eBin ixD (eVar 0) (eC (.int 1))))) (eBin addD (eCallP maxD (aCons (eBin addD (eLst (aCons (eC (.int 0)) aNil)) (eCallP listD (aCons (eBin ixD (eVar 0) (eC (.int 2))) aNil))) aNil)) (eC (.int 1))) (eC .non)) (gName' 6)) (sRet (eLst (aCons (eIf (asB (eBin neD (eVar 2) (eLst aNil))) (eBin ixD (eVar 2) (eC (.int 0))) (eC .non)) (aCons (eIf (asB (eBin neD (eVar 3) (eLst aNil))) (eBin ixD (eVar 3) (eC (.int 0))) (eC .non)) (aCons (eVar 6) (aCons (eSl (eVar 2) oNone (oSome (eC (.int 9)))) aNil)))))))))))
noncomputable def B__law_wrapped_T1 (F__law_gcd F__law_pick : List D → M D) : FTx := (asB (eBin eqD (eBin modD (eCallP intD (aCons (eVar 2) aNil)) (eVar 4)) (eC (.int 0))))
noncomputable def B__law_wrapped_T2 (F__law_gcd F__law_pick : List D → M D) : FTx := (asB (eBin inD (eCall 2 0 gAll F__law_gcd (aCons (eVar 4) (aCons (eBin ixD (eVar 1) (eC (.int 0))) aNil)) aNil) (eBin ixD (eVar 1) (eC (.int 1)))))
noncomputable def B__law_wrapped (F__law_gcd F__law_pick : List D → M D) : FSx := (sSeq (sAsg (eBin mulD (eBin ixD (eVar 1) (eC (.int 0))) (eCall 2 0 gAll F__law_pick (aCons (eVar 0) (aCons (eLst (aCons (eC (.int 1)) (aCons (eC (.int 2)) (aCons (eC (.int 3)) (aCons (eC (.int 5)) aNil))))) aNil)) aNil)) (gName' 2)) (sSeq (sAsg (eComp [4] (iRange rangeD2 (aCons (eC (.int 1)) (aCons (eBin addD (eVar 2) (eC (.int 1))) aNil))) (gName' 4) (B__law_wrapped_T1 F__law_gcd F__law_pick) (eVar 4)) (gName' 3)) (sRet (eTup (aCons (eVar 2) (aCons (eCallP tupleD (aCons (eComp [4] (iSeqD (eVar 3)) (gName' 4) (B__law_wrapped_T2 F__law_gcd F__law_pick) (eVar 4)) aNil)) (aCons (eBin ixD (eVar 1) (eC (.int 2))) aNil)))))))
noncomputable def B_are_closed_E1 (F_are_moduli_in F_divisors_of : List D → M D) : FEx := (eBin eqD (eBin modD (eCallP intD (aCons (eVar 0) aNil)) (eVar 3)) (eC (.int 0)))
noncomputable def B_are_closed_E2 (F_are_moduli_in F_divisors_of : List D → M D) : FEx := (eBin eqD (eBin modD (eCallP intD (aCons (eVar 3) aNil)) (eVar 4)) (eC (.int 0)))
noncomputable def B_are_closed_T1 (F_are_moduli_in F_divisors_of : List D → M D) : FTx := (asT (eCallP anyD (aCons (eComp [4] (iSeqD (eVar 1)) (gName' 4) tTrue (B_are_closed_E2 F_are_moduli_in F_divisors_of)) aNil)))
noncomputable def B_are_closed (F_are_moduli_in F_divisors_of : List D → M D) : FSx := (sSeq (sIf (tOr2 (tNot1 (asT (eCall 1 0 gAll F_are_moduli_in (aCons (eVar 1) aNil) aNil))) (tNot1 (asT (eCallP allD (aCons (eComp [3] (iSeqD (eVar 1)) (gName' 3) tTrue (B_are_closed_E1 F_are_moduli_in F_divisors_of)) aNil))))) (sRet (eC (.bl false))) sNext) (sSeq (sAsg (eComp [3] (iSeqD (eCall 1 0 gAll F_divisors_of (aCons (eVar 0) aNil) aNil)) (gName' 3) (B_are_closed_T1 F_are_moduli_in F_divisors_of) (eVar 3)) (gName' 2)) (sRet (eBin eqD (eCallP listD (aCons (eVar 1) aNil)) (eVar 2)))))
noncomputable def B_are_moduli_in_E1 (F_is_modulus F_is_rising : List D → M D) : FEx := (eCall 1 0 gAll F_is_modulus (aCons (eVar 1) aNil) aNil)
noncomputable def B_are_moduli_in (F_is_modulus F_is_rising : List D → M D) : FSx := (sRet (eAnd2 (eUn (isiD .tuple) (eVar 0)) (eAnd2 (eCallP allD (aCons (eComp [1] (iSeqD (eVar 0)) (gName' 1) tTrue (B_are_moduli_in_E1 F_is_modulus F_is_rising)) aNil)) (eCall 1 0 gAll F_is_rising (aCons (eVar 0) aNil) aNil))))
noncomputable def B_common_divisor_T1 : FTx := (asB (eBin gtD (eVar 1) (eC (.int 0))))
noncomputable def B_common_divisor_L1 : FSx := (sPar 0 1 (aCons (eVar 1) (aCons (eBin modD (eVar 0) (eVar 1)) aNil)))
noncomputable def B_common_divisor : FSx := (sSeq (sWhile B_common_divisor_T1 B_common_divisor_L1) (sRet (eVar 0)))
noncomputable def B_divisors_of_T1 (F_root_above : List D → M D) : FTx := (asB (eBin eqD (eBin modD (eCallP intD (aCons (eVar 0) aNil)) (eVar 2)) (eC (.int 0))))
noncomputable def B_divisors_of_E1 (F_root_above : List D → M D) : FEx := (eBin fdivD (eVar 0) (eVar 2))
noncomputable def B_divisors_of (F_root_above : List D → M D) : FSx := (sSeq (sAsg (eComp [2] (iRange rangeD2 (aCons (eC (.int 1)) (aCons (eBin addD (eCall 1 0 gAll F_root_above (aCons (eVar 0) aNil) aNil) (eC (.int 1))) aNil))) (gName' 2) (B_divisors_of_T1 F_root_above) (eVar 2)) (gName' 1)) (sRet (eUn sortSetBD (eBin addD (eVar 1) (eComp [2] (iSeqD (eVar 1)) (gName' 2) tTrue (B_divisors_of_E1 F_root_above))))))
noncomputable def B_has_modulus (F_common_divisor : List D → M D) : FSx := (sSeq (sAsg (eVar 0) (gTup' 3 (gsCons (gName' 2) (gsCons (gName' 3) (gsCons (gName' 4) gsNil))))) (sRet (eAnd2 (eBin inD (eCall 2 0 gAll F_common_divisor (aCons (eVar 1) (aCons (eVar 2) aNil)) aNil) (eVar 3)) (eBin notInD (eVar 1) (eVar 4)))))
noncomputable def B_lcm_of_L1 (F_common_divisor : List D → M D) : FSx := (sAsg (eBin fdivD (eBin mulD (eVar 1) (eVar 2)) (eCall 2 0 gAll F_common_divisor (aCons (eVar 1) (aCons (eVar 2) aNil)) aNil)) (gName' 1))
noncomputable def B_lcm_of (F_common_divisor : List D → M D) : FSx := (sSeq (sAsg (eC (.int 1)) (gName' 1)) (sSeq (sFor (iSeqD (eVar 0)) (gName' 2) (B_lcm_of_L1 F_common_divisor)) (sRet (eVar 1))))
noncomputable def B_least_bits_T1 (F_has_modulus : List D → M D) : FTx := (asB (eBin eqD (eBin modD (eCallP intD (aCons (eVar 6) aNil)) (eC (.int 2))) (eC (.int 0))))
noncomputable def B_least_bits_L1 (F_has_modulus : List D → M D) : FSx := (sPar 6 5 (aCons (eBin fdivD (eVar 6) (eC (.int 2))) (aCons (eBin addD (eVar 5) (eC (.int 1))) aNil)))
noncomputable def B_least_bits_L2 (F_has_modulus : List D → M D) : FSx := (sSeq (sIf (asT (eCall 2 0 gAll F_has_modulus (aCons (eVar 0) (aCons (eVar 4) aNil)) aNil)) (sRet (eVar 7)) sNext) (sAsg (eBin mulD (eVar 4) (eC (.int 2))) (gName' 4)))
noncomputable def B_least_bits (F_has_modulus : List D → M D) : FSx := (sSeq (sAsg (eVar 0) (gTup' 3 (gsCons (gName' 1) (gsCons (gName' 2) (gsCons (gName' 3) gsNil))))) (sSeq (sPar3 4 5 6 (aCons (eC (.int 1)) (aCons (eBin addD (eCallP lenD (aCons (eVar 3) aNil)) (eC (.int 1))) (aCons (eVar 1) aNil)))) (sSeq (sWhile (B_least_bits_T1 F_has_modulus) (B_least_bits_L1 F_has_modulus)) (sSeq (sFor (iRange rangeD1 (aCons (eBin addD (eVar 5) (eC (.int 1))) aNil)) (gName' 7) (B_least_bits_L2 F_has_modulus)) (sRet (eC .non))))))
noncomputable def B_leasts_of_E1 : FEx := (eAnd2 (eBin ltD (eVar 2) (eVar 1)) (eBin eqD (eBin modD (eCallP intD (aCons (eVar 1) aNil)) (eVar 2)) (eC (.int 0))))
noncomputable def B_leasts_of_T1 : FTx := (tNot1 (asT (eCallP anyD (aCons (eComp [2] (iSeqD (eVar 0)) (gName' 2) tTrue B_leasts_of_E1) aNil))))
noncomputable def B_leasts_of : FSx := (sRet (eComp [1] (iSeqD (eVar 0)) (gName' 1) B_leasts_of_T1 (eVar 1)))
noncomputable def B_many_to_T1 (F_leasts_of F_multiples_to : List D → M D) : FTx := (asB (eBin leD (eVar 5) (eVar 1)))
noncomputable def B_many_to (F_leasts_of F_multiples_to : List D → M D) : FSx := (sSeq (sAsg (eVar 0) (gTup' 3 (gsCons (gName' 2) (gsCons (gName' 3) (gsCons (gName' 4) gsNil))))) (sRet (eBin subD (eCall 3 0 gAll F_multiples_to (aCons (eCall 1 0 gAll F_leasts_of (aCons (eVar 3) aNil) aNil) (aCons (eC (.int 1)) (aCons (eVar 1) aNil))) aNil) (eCallP lenD (aCons (eComp [5] (iSeqD (eVar 4)) (gName' 5) (B_many_to_T1 F_leasts_of F_multiples_to) (eVar 5)) aNil)))))
noncomputable def B_multiples_to_L1 (F_lcm_of F_multiples_to : List D → M D) : FSx := (sSeq (sAsg (eCall 1 0 gAll F_lcm_of (aCons (eLst (aCons (eVar 1) (aCons (eVar 5) aNil))) aNil) aNil) (gName' 6)) (sIf (asB (eBin leD (eVar 6) (eVar 2))) (sAsg (eBin subD (eBin addD (eVar 3) (eBin fdivD (eVar 2) (eVar 6))) (eCall 3 0 gAll F_multiples_to (aCons (eSl (eVar 0) (oSome (eBin addD (eVar 4) (eC (.int 1)))) oNone) (aCons (eVar 6) (aCons (eVar 2) aNil))) aNil)) (gName' 3)) sNext))
noncomputable def B_multiples_to (F_lcm_of F_multiples_to : List D → M D) : FSx := (sSeq (sAsg (eC (.int 0)) (gName' 3)) (sSeq (sFor (iEnumD (aCons (eVar 0) aNil)) (gTup' 2 (gsCons (gName' 4) (gsCons (gName' 5) gsNil))) (B_multiples_to_L1 F_lcm_of F_multiples_to)) (sRet (eVar 3))))
noncomputable def B_nth_of_T1 (F_many_to : List D → M D) : FTx := (asB (eBin leD (eCall 2 0 gAll F_many_to (aCons (eVar 0) (aCons (eVar 3) aNil)) aNil) (eVar 1)))
noncomputable def B_nth_of_L1 (F_many_to : List D → M D) : FSx := (sPar 2 3 (aCons (eVar 3) (aCons (eBin mulD (eC (.int 2)) (eVar 3)) aNil)))
noncomputable def B_nth_of_T2 (F_many_to : List D → M D) : FTx := (asB (eBin gtD (eBin subD (eVar 3) (eVar 2)) (eC (.int 1))))
noncomputable def B_nth_of_L2 (F_many_to : List D → M D) : FSx := (sSeq (sAsg (eBin fdivD (eBin addD (eVar 2) (eVar 3)) (eC (.int 2))) (gName' 4)) (sIf (asB (eBin leD (eCall 2 0 gAll F_many_to (aCons (eVar 0) (aCons (eVar 4) aNil)) aNil) (eVar 1))) (sAsg (eVar 4) (gName' 2)) (sAsg (eVar 4) (gName' 3))))
noncomputable def B_nth_of (F_many_to : List D → M D) : FSx := (sSeq (sPar 2 3 (aCons (eC (.int 0)) (aCons (eBin ixD (eVar 0) (eC (.int 0))) aNil))) (sSeq (sWhile (B_nth_of_T1 F_many_to) (B_nth_of_L1 F_many_to)) (sSeq (sWhile (B_nth_of_T2 F_many_to) (B_nth_of_L2 F_many_to)) (sRet (eVar 3)))))
noncomputable def B_root_above_T1 : FTx := (asB (eBin ltD (eBin mulD (eVar 1) (eVar 1)) (eVar 0)))
noncomputable def B_root_above_L1 : FSx := (sAsg (eBin addD (eVar 1) (eC (.int 1))) (gName' 1))
noncomputable def B_root_above : FSx := (sSeq (sAsg (eC (.int 1)) (gName' 1)) (sSeq (sWhile B_root_above_T1 B_root_above_L1) (sRet (eVar 1))))
noncomputable def B_told_form_modulisets_E1 (F_common_divisor F_divisors_of F_lcm_of F_leasts_of : List D → M D) : FEx := (eBin eqD (eBin modD (eCallP intD (aCons (eVar 7) aNil)) (eVar 9)) (eC (.int 0)))
noncomputable def B_told_form_modulisets_T1 (F_common_divisor F_divisors_of F_lcm_of F_leasts_of : List D → M D) : FTx := (asT (eCallP anyD (aCons (eComp [9] (iSeqD (eVar 3)) (gName' 9) tTrue (B_told_form_modulisets_E1 F_common_divisor F_divisors_of F_lcm_of F_leasts_of)) aNil)))
noncomputable def B_told_form_modulisets_T2 (F_common_divisor F_divisors_of F_lcm_of F_leasts_of : List D → M D) : FTx := (asB (eBin inD (eCall 2 0 gAll F_common_divisor (aCons (eVar 8) (aCons (eVar 4) aNil)) aNil) (eVar 5)))
noncomputable def B_told_form_modulisets (F_common_divisor F_divisors_of F_lcm_of F_leasts_of : List D → M D) : FSx := (sSeq (sAsg (eCall 1 0 gAll F_leasts_of (aCons (eVar 1) aNil) aNil) (gName' 3)) (sSeq (sAsg (eCall 1 0 gAll F_lcm_of (aCons (eVar 3) aNil) aNil) (gName' 4)) (sSeq (sAsg (eComp [7] (iSeqD (eCall 1 0 gAll F_divisors_of (aCons (eVar 4) aNil) aNil)) (gName' 7) (B_told_form_modulisets_T1 F_common_divisor F_divisors_of F_lcm_of F_leasts_of) (eVar 7)) (gName' 5)) (sSeq (sAsg (eComp [8] (iSeqD (eVar 2)) (gName' 8) (B_told_form_modulisets_T2 F_common_divisor F_divisors_of F_lcm_of F_leasts_of) (eVar 8)) (gName' 6)) (sRet (eTup (aCons (eVar 4) (aCons (eCallP tupleD (aCons (eVar 5) aNil)) (aCons (eCallP tupleD (aCons (eUn sortSetBD (eVar 6)) aNil)) aNil)))))))))
end SS
end
section
set_option Elab.async false
set_option linter.all false
set_option maxRecDepth 100000
set_option autoImplicit false
set_option maxHeartbeats 2000000
namespace SS
open PySem PySem.Spec PyProof.Rows L2 FL
noncomputable def B_is_modulus (F_is_number : List D → M D) : FSx := (sRet (eAnd2 (eCall 1 0 gAll F_is_number (aCons (eVar 0) aNil) aNil) (eBin gtD (eVar 0) (eC (.int 0)))))
end SS
end
section
set_option Elab.async false
set_option linter.all false
set_option maxRecDepth 100000
set_option autoImplicit false
set_option maxHeartbeats 2000000
namespace SS
open PySem PySem.Spec PyProof.Rows L2 FL
noncomputable def B_is_rising_E1 : FEx := (eBin ltD (eVar 1) (eVar 2))
noncomputable def B_is_rising : FSx := (sRet (eCallP allD (aCons (eComp [1, 2] (iRange zipD (aCons (eVar 0) (aCons (eSl (eVar 0) (oSome (eC (.int 1))) oNone) aNil))) (gTup' 2 (gsCons (gName' 1) (gsCons (gName' 2) gsNil))) tTrue B_is_rising_E1) aNil)))
end SS
end
section
set_option Elab.async false
set_option linter.all false
set_option maxRecDepth 100000
set_option autoImplicit false
set_option maxHeartbeats 2000000
namespace SS
open PySem PySem.Spec PyProof.Rows L2 FL
end SS
end
section
set_option Elab.async false
set_option linter.all false
set_option maxRecDepth 100000
set_option autoImplicit false
set_option maxHeartbeats 2000000
namespace SS
open PySem PySem.Spec PyProof.Rows L2 FL
end SS
end
section
set_option Elab.async false
set_option linter.all false
set_option maxRecDepth 100000
set_option autoImplicit false
set_option maxHeartbeats 2000000
namespace SS
open PySem PySem.Spec PyProof.Rows L2 FL
end SS
end
section
set_option Elab.async false
set_option linter.all false
set_option maxRecDepth 100000
set_option autoImplicit false
set_option maxHeartbeats 2000000
namespace SS
open PySem PySem.Spec PyProof.Rows L2 FL
/-! how the combinators of the mirrors go on -/
/-- one part, then the rest -/
def tn {α β : Type} (m : R α) (k : α → Sto → R β) : R β := match m with
  | .ok a S => k a S
  | .ex x S => .ex x S
  | .no => .no
def oR {α : Type} (o : Option α) (S : Sto) : R α := match o with
  | some a => .ok a S
  | none => .no
def nx {α : Type} : R α → R α
  | .ok a S => .ok a S
  | _ => .no
theorem tn_ok {α β : Type} (a : α) (S : Sto) (k : α → Sto → R β) : tn (.ok a S) k = k a S := rfl
theorem oR_some {α : Type} (a : α) (S : Sto) : oR (some a) S = .ok a S := rfl
theorem nx_ok {α : Type} (a : α) (S : Sto) : nx (.ok a S) = .ok a S := rfl
theorem ev_var (i : Nat) (r : FL.Env) (S : Sto) : eVar i r S = oR (r[i]?.join) S := by unfold eVar oR opt; cases r[i]?.join <;> rfl
theorem ev_c (d : D) (r : FL.Env) (S : Sto) : eC d r S = .ok d S := rfl
def kBin2 (g : D → D → Option D) (x y : D) (S : Sto) : R D := oR (g (vw S x) (vw S y)) S
def kBin1 (g : D → D → Option D) (fb : FEx) (r : FL.Env) (x : D) (S : Sto) : R D := tn (fb r S) (kBin2 g x)
theorem ev_bin (g : D → D → Option D) (fa fb : FEx) (r : FL.Env) (S : Sto) : eBin g fa fb r S = tn (fa r S) (kBin1 g fb r) := by
  show bnd (fa r) _ S = _
  simp only [bnd, tn]
  cases fa r S with
  | ok x S1 =>
    simp only [kBin1, tn]
    cases fb r S1 with
    | ok y S2 => simp only [kBin2, oR, opt]; cases g (vw S2 x) (vw S2 y) <;> rfl
    | ex x S => rfl
    | no => rfl
  | ex x S => rfl
  | no => rfl
theorem ev_kBin1 (g : D → D → Option D) (fb : FEx) (r : FL.Env) (x : D) (S : Sto) : kBin1 g fb r x S = tn (fb r S) (kBin2 g x) := rfl
theorem ev_kBin2 (g : D → D → Option D) (x y : D) (S : Sto) : kBin2 g x y S = oR (g (vw S x) (vw S y)) S := rfl
def kUn (g : D → Option D) (x : D) (S : Sto) : R D := oR (g (vw S x)) S
theorem ev_un (g : D → Option D) (f : FEx) (r : FL.Env) (S : Sto) : eUn g f r S = tn (f r S) (kUn g) := by
  show bnd (f r) _ S = _
  simp only [bnd, tn]
  cases f r S with
  | ok a S1 => simp only [kUn, oR, opt]; cases g (vw S1 a) <;> rfl
  | ex x S => rfl
  | no => rfl
theorem ev_kUn (g : D → Option D) (x : D) (S : Sto) : kUn g x S = oR (g (vw S x)) S := rfl
def kB : D → Sto → R Bool
  | .bl k, S => .ok k S
  | _, _ => .no
theorem ev_asB (f : FEx) (r : FL.Env) (S : Sto) : asB f r S = tn (f r S) (kB) := by
  show bnd (f r) _ S = _
  simp only [bnd, tn]
  cases f r S with
  | ok a S1 => cases a <;> rfl
  | ex x S => rfl
  | no => rfl
theorem ev_kB (k : Bool) (S : Sto) : kB (.bl k) S = .ok k S := rfl
def kT (d : D) (S : Sto) : R Bool := oR (truD (vw S d)) S
theorem ev_asT (f : FEx) (r : FL.Env) (S : Sto) : asT f r S = tn (f r S) (kT) := by
  show bnd (f r) _ S = _
  simp only [bnd, tn]
  cases f r S with
  | ok a S1 => simp only [kT, oR, opt]; cases truD (vw S1 a) <;> rfl
  | ex x S => rfl
  | no => rfl
theorem ev_kT (d : D) (S : Sto) : kT d S = oR (truD (vw S d)) S := rfl
def kAnd (u : FTx) (r : FL.Env) : Bool → Sto → R Bool
  | true, S => u r S
  | false, S => .ok false S
theorem ev_tAnd2 (t u : FTx) (r : FL.Env) (S : Sto) : tAnd2 t u r S = tn (t r S) (kAnd u r) := by
  show bnd (t r) _ S = _
  simp only [bnd, tn]
  cases t r S with
  | ok a S1 => cases a <;> rfl
  | ex x S => rfl
  | no => rfl
theorem ev_kAndT (u : FTx) (r : FL.Env) (S : Sto) : kAnd u r true S = u r S := rfl
theorem ev_kAndF (u : FTx) (r : FL.Env) (S : Sto) : kAnd u r false S = .ok false S := rfl
def kOr (u : FTx) (r : FL.Env) : Bool → Sto → R Bool
  | true, S => .ok true S
  | false, S => u r S
theorem ev_tOr2 (t u : FTx) (r : FL.Env) (S : Sto) : tOr2 t u r S = tn (t r S) (kOr u r) := by
  show bnd (t r) _ S = _
  simp only [bnd, tn]
  cases t r S with
  | ok a S1 => cases a <;> rfl
  | ex x S => rfl
  | no => rfl
theorem ev_kOrT (u : FTx) (r : FL.Env) (S : Sto) : kOr u r true S = .ok true S := rfl
theorem ev_kOrF (u : FTx) (r : FL.Env) (S : Sto) : kOr u r false S = u r S := rfl
def kNot (k : Bool) (S : Sto) : R Bool := .ok (!k) S
theorem ev_not (t : FTx) (r : FL.Env) (S : Sto) : tNot1 t r S = tn (t r S) (kNot) := by
  show bnd (t r) _ S = _
  simp only [bnd, tn]
  all_goals (cases t r S <;> rfl)
theorem ev_kNot (k : Bool) (S : Sto) : kNot k S = .ok (!k) S := rfl
def kAndE2 (g : FEx) (r : FL.Env) (d : D) : Bool → Sto → R D
  | true, S => g r S
  | false, S => .ok d S
def kAndE (g : FEx) (r : FL.Env) (d : D) (S : Sto) : R D := tn (oR (truD (vw S d)) S) (kAndE2 g r d)
theorem ev_eAnd2 (f g : FEx) (r : FL.Env) (S : Sto) : eAnd2 f g r S = tn (f r S) (kAndE g r) := by
  show bnd (f r) _ S = _
  simp only [bnd, tn]
  cases f r S with
  | ok a S1 => simp only [kAndE, oR, opt, tn]; cases truD (vw S1 a) with
    | none => rfl
    | some k => cases k <;> rfl
  | ex x S => rfl
  | no => rfl
theorem ev_kAndE (g : FEx) (r : FL.Env) (d : D) (S : Sto) : kAndE g r d S = tn (oR (truD (vw S d)) S) (kAndE2 g r d) := rfl
theorem ev_kAndET (g : FEx) (r : FL.Env) (d : D) (S : Sto) : kAndE2 g r d true S = g r S := rfl
theorem ev_kAndEF (g : FEx) (r : FL.Env) (d : D) (S : Sto) : kAndE2 g r d false S = .ok d S := rfl
def kOrE2 (g : FEx) (r : FL.Env) (d : D) : Bool → Sto → R D
  | true, S => .ok d S
  | false, S => g r S
def kOrE (g : FEx) (r : FL.Env) (d : D) (S : Sto) : R D := tn (oR (truD (vw S d)) S) (kOrE2 g r d)
theorem ev_eOr2 (f g : FEx) (r : FL.Env) (S : Sto) : eOr2 f g r S = tn (f r S) (kOrE g r) := by
  show bnd (f r) _ S = _
  simp only [bnd, tn]
  cases f r S with
  | ok a S1 => simp only [kOrE, oR, opt, tn]; cases truD (vw S1 a) with
    | none => rfl
    | some k => cases k <;> rfl
  | ex x S => rfl
  | no => rfl
theorem ev_kOrE (g : FEx) (r : FL.Env) (d : D) (S : Sto) : kOrE g r d S = tn (oR (truD (vw S d)) S) (kOrE2 g r d) := rfl
theorem ev_kOrET (g : FEx) (r : FL.Env) (d : D) (S : Sto) : kOrE2 g r d true S = .ok d S := rfl
theorem ev_kOrEF (g : FEx) (r : FL.Env) (d : D) (S : Sto) : kOrE2 g r d false S = g r S := rfl
def kNotE2 (k : Bool) (S : Sto) : R D := .ok (.bl (!k)) S
def kNotE (d : D) (S : Sto) : R D := tn (oR (truD (vw S d)) S) kNotE2
theorem ev_eNot1 (f : FEx) (r : FL.Env) (S : Sto) : eNot1 f r S = tn (f r S) (kNotE) := by
  show bnd (f r) _ S = _
  simp only [bnd, tn]
  cases f r S with
  | ok a S1 => simp only [kNotE, oR, opt, tn]; cases truD (vw S1 a) <;> rfl
  | ex x S => rfl
  | no => rfl
theorem ev_kNotE (d : D) (S : Sto) : kNotE d S = tn (oR (truD (vw S d)) S) kNotE2 := rfl
theorem ev_kNotE2 (k : Bool) (S : Sto) : kNotE2 k S = .ok (.bl (!k)) S := rfl
def kIf (f g : FEx) (r : FL.Env) : Bool → Sto → R D
  | true, S => f r S
  | false, S => g r S
theorem ev_if (t : FTx) (f g : FEx) (r : FL.Env) (S : Sto) : eIf t f g r S = tn (t r S) (kIf f g r) := by
  show bnd (t r) _ S = _
  simp only [bnd, tn]
  cases t r S with
  | ok a S1 => cases a <;> rfl
  | ex x S => rfl
  | no => rfl
theorem ev_kIfT (f g : FEx) (r : FL.Env) (S : Sto) : kIf f g r true S = f r S := rfl
theorem ev_kIfF (f g : FEx) (r : FL.Env) (S : Sto) : kIf f g r false S = g r S := rfl
theorem ev_aNil (r : FL.Env) (S : Sto) : aNil r S = .ok [] S := rfl
def kCons2 (x : D) (xs : List D) (S : Sto) : R (List D) := .ok (x :: xs) S
def kCons (g : FAx) (r : FL.Env) (x : D) (S : Sto) : R (List D) := tn (g r S) (kCons2 x)
theorem ev_aCons (f : FEx) (g : FAx) (r : FL.Env) (S : Sto) : aCons f g r S = tn (f r S) (kCons g r) := by
  show bnd (f r) _ S = _
  simp only [bnd, tn]
  cases f r S with
  | ok a S1 => simp only [kCons, tn]; cases g r S1 <;> rfl
  | ex x S => rfl
  | no => rfl
theorem ev_kCons (g : FAx) (r : FL.Env) (x : D) (S : Sto) : kCons g r x S = tn (g r S) (kCons2 x) := rfl
theorem ev_kCons2 (x : D) (xs : List D) (S : Sto) : kCons2 x xs S = .ok (x :: xs) S := rfl
def kStar3 (xs ys : List D) (S : Sto) : R (List D) := .ok (xs ++ ys) S
def kStar2 (g : FAx) (r : FL.Env) (xs : List D) (S : Sto) : R (List D) := tn (g r S) (kStar3 xs)
def kStar (g : FAx) (r : FL.Env) (x : D) (S : Sto) : R (List D) := tn (oR (alt (vw S x).tup? (vw S x).lst?) S) (kStar2 g r)
theorem ev_aStar (f : FEx) (g : FAx) (r : FL.Env) (S : Sto) : aStar f g r S = tn (f r S) (kStar g r) := by
  show bnd (f r) _ S = _
  simp only [bnd, tn]
  cases f r S with
  | ok a S1 => simp only [kStar, oR, opt, tn]; cases alt (vw S1 a).tup? (vw S1 a).lst? with
    | none => rfl
    | some xs => simp only [kStar2, tn]; cases g r S1 <;> rfl
  | ex x S => rfl
  | no => rfl
theorem ev_kStar (g : FAx) (r : FL.Env) (x : D) (S : Sto) : kStar g r x S = tn (oR (alt (vw S x).tup? (vw S x).lst?) S) (kStar2 g r) := rfl
theorem ev_kStar2 (g : FAx) (r : FL.Env) (xs : List D) (S : Sto) : kStar2 g r xs S = tn (g r S) (kStar3 xs) := rfl
theorem ev_kStar3 (xs ys : List D) (S : Sto) : kStar3 xs ys S = .ok (xs ++ ys) S := rfl
def kTup2 (ys : List D) (S : Sto) : R D := .ok (.tup ys) S
def kTup (xs : List D) (S : Sto) : R D := tn (oR (few xs) S) kTup2
theorem ev_eTup (g : FAx) (r : FL.Env) (S : Sto) : eTup g r S = tn (g r S) (kTup) := by
  show bnd (g r) _ S = _
  simp only [bnd, tn]
  cases g r S with
  | ok a S1 => simp only [kTup, oR, opt, tn]; cases few a <;> rfl
  | ex x S => rfl
  | no => rfl
theorem ev_kTup (xs : List D) (S : Sto) : kTup xs S = tn (oR (few xs) S) kTup2 := rfl
theorem ev_kTup2 (ys : List D) (S : Sto) : kTup2 ys S = .ok (.tup ys) S := rfl
def kLst2 (ys : List D) (S : Sto) : R D := .ok (.lst ys) S
def kLst (xs : List D) (S : Sto) : R D := tn (oR (few xs) S) kLst2
theorem ev_eLst (g : FAx) (r : FL.Env) (S : Sto) : eLst g r S = tn (g r S) (kLst) := by
  show bnd (g r) _ S = _
  simp only [bnd, tn]
  cases g r S with
  | ok a S1 => simp only [kLst, oR, opt, tn]; cases few a <;> rfl
  | ex x S => rfl
  | no => rfl
theorem ev_kLst (xs : List D) (S : Sto) : kLst xs S = tn (oR (few xs) S) kLst2 := rfl
theorem ev_kLst2 (ys : List D) (S : Sto) : kLst2 ys S = .ok (.lst ys) S := rfl
def kNewL2 (ys : List D) (S : Sto) : R D := .ok (.ref S.length) (S ++ [.lst ys])
def kNewL (xs : List D) (S : Sto) : R D := tn (oR (few xs) S) kNewL2
theorem ev_eNewL (g : FAx) (r : FL.Env) (S : Sto) : eNewL g r S = tn (g r S) (kNewL) := by
  show bnd (g r) _ S = _
  simp only [bnd, tn]
  cases g r S with
  | ok a S1 => simp only [kNewL, oR, opt, tn]; cases few a <;> rfl
  | ex x S => rfl
  | no => rfl
theorem ev_kNewL (xs : List D) (S : Sto) : kNewL xs S = tn (oR (few xs) S) kNewL2 := rfl
theorem ev_kNewL2 (ys : List D) (S : Sto) : kNewL2 ys S = .ok (.ref S.length) (S ++ [.lst ys]) := rfl
theorem ev_newD (r : FL.Env) (S : Sto) : eNewD r S = .ok (.ref S.length) (S ++ [.dct []]) := rfl
def kCallP (g : List D → Option D) (xs : List D) (S : Sto) : R D := oR (g (xs.map (vw S))) S
theorem ev_callP (g : List D → Option D) (f : FAx) (r : FL.Env) (S : Sto) : eCallP g f r S = tn (f r S) (kCallP g) := by
  show bnd (f r) _ S = _
  simp only [bnd, tn]
  cases f r S with
  | ok a S1 => simp only [kCallP, oR, opt]; cases g (a.map (vw S1)) <;> rfl
  | ex x S => rfl
  | no => rfl
theorem ev_kCallP (g : List D → Option D) (xs : List D) (S : Sto) : kCallP g xs S = oR (g (xs.map (vw S))) S := rfl
def kCall2 (n m : Nat) (g : List D → List D → List D) (F : List D → M D) (ds es : List D) (S : Sto) : R D := if ds.length = n ∧ es.length = m then F (g ds es) S else .no
def kCall (n m : Nat) (g : List D → List D → List D) (F : List D → M D) (fk : FAx) (r : FL.Env) (ds : List D) (S : Sto) : R D := tn (fk r S) (kCall2 n m g F ds)
theorem ev_call (n m : Nat) (g : List D → List D → List D) (F : List D → M D) (fa fk : FAx) (r : FL.Env) (S : Sto) : eCall n m g F fa fk r S = tn (fa r S) (kCall n m g F fk r) := by
  show bnd (fa r) _ S = _
  simp only [bnd, tn]
  cases fa r S with
  | ok a S1 => simp only [kCall, tn]; cases fk r S1 with
    | ok es S2 => simp only [kCall2]; split <;> rfl
    | ex x S => rfl
    | no => rfl
  | ex x S => rfl
  | no => rfl
theorem ev_kCall (n m : Nat) (g : List D → List D → List D) (F : List D → M D) (fk : FAx) (r : FL.Env) (ds : List D) (S : Sto) : kCall n m g F fk r ds S = tn (fk r S) (kCall2 n m g F ds) := rfl
theorem ev_kCall2 (n m : Nat) (g : List D → List D → List D) (F : List D → M D) (ds es : List D) (S : Sto) : kCall2 n m g F ds es S = if ds.length = n ∧ es.length = m then F (g ds es) S else .no := rfl
theorem ev_oNone (r : FL.Env) (S : Sto) : oNone r S = .ok none S := rfl
def kO2 (i : Int) (S : Sto) : R (Option Int) := .ok (some i) S
def kO (d : D) (S : Sto) : R (Option Int) := tn (oR d.int? S) kO2
theorem ev_oSome (f : FEx) (r : FL.Env) (S : Sto) : oSome f r S = tn (f r S) (kO) := by
  show bnd (f r) _ S = _
  simp only [bnd, tn]
  cases f r S with
  | ok a S1 => simp only [kO, oR, opt, tn]; cases a.int? <;> rfl
  | ex x S => rfl
  | no => rfl
theorem ev_kO (d : D) (S : Sto) : kO d S = tn (oR d.int? S) kO2 := rfl
theorem ev_kO2 (i : Int) (S : Sto) : kO2 i S = .ok (some i) S := rfl
def kSl3 (x : D) (lo hi : Option Int) (S : Sto) : R D := oR (slD (vw S x) lo hi) S
def kSl2 (u : FL.Env → M (Option Int)) (r : FL.Env) (x : D) (lo : Option Int) (S : Sto) : R D := tn (u r S) (kSl3 x lo)
def kSl (l u : FL.Env → M (Option Int)) (r : FL.Env) (x : D) (S : Sto) : R D := tn (l r S) (kSl2 u r x)
theorem ev_sl (f : FEx) (l u : FL.Env → M (Option Int)) (r : FL.Env) (S : Sto) : eSl f l u r S = tn (f r S) (kSl l u r) := by
  show bnd (f r) _ S = _
  simp only [bnd, tn]
  cases f r S with
  | ok a S1 => simp only [kSl, tn]; cases l r S1 with
    | ok lo S2 =>
      simp only [kSl2, tn]
      cases u r S2 with
      | ok hi S3 => simp only [kSl3, oR, opt]; cases slD (vw S3 a) lo hi <;> rfl
      | ex x S => rfl
      | no => rfl
    | ex x S => rfl
    | no => rfl
  | ex x S => rfl
  | no => rfl
theorem ev_kSl (l u : FL.Env → M (Option Int)) (r : FL.Env) (x : D) (S : Sto) : kSl l u r x S = tn (l r S) (kSl2 u r x) := rfl
theorem ev_kSl2 (u : FL.Env → M (Option Int)) (r : FL.Env) (x : D) (lo : Option Int) (S : Sto) : kSl2 u r x lo S = tn (u r S) (kSl3 x lo) := rfl
theorem ev_kSl3 (x : D) (lo hi : Option Int) (S : Sto) : kSl3 x lo hi S = oR (slD (vw S x) lo hi) S := rfl
def kT4 (x : D) (lo hi st : Option Int) (S : Sto) : R D := oR (sl3D (vw S x) lo hi st) S
def kT3 (t : FL.Env → M (Option Int)) (r : FL.Env) (x : D) (lo hi : Option Int) (S : Sto) : R D := tn (t r S) (kT4 x lo hi)
def kT2 (u t : FL.Env → M (Option Int)) (r : FL.Env) (x : D) (lo : Option Int) (S : Sto) : R D := tn (u r S) (kT3 t r x lo)
def kT1 (l u t : FL.Env → M (Option Int)) (r : FL.Env) (x : D) (S : Sto) : R D := tn (l r S) (kT2 u t r x)
theorem ev_sl3 (f : FEx) (l u t : FL.Env → M (Option Int)) (r : FL.Env) (S : Sto) : eSl3 f l u t r S = tn (f r S) (kT1 l u t r) := by
  show bnd (f r) _ S = _
  simp only [bnd, tn]
  cases f r S with
  | ok a S1 => simp only [kT1, tn]; cases l r S1 with
    | ok lo S2 =>
      simp only [kT2, tn]
      cases u r S2 with
      | ok hi S3 =>
        simp only [kT3, tn]
        cases t r S3 with
        | ok st S4 => simp only [kT4, oR, opt]; cases sl3D (vw S4 a) lo hi st <;> rfl
        | ex x S => rfl
        | no => rfl
      | ex x S => rfl
      | no => rfl
    | ex x S => rfl
    | no => rfl
  | ex x S => rfl
  | no => rfl
theorem ev_kT1 (l u t : FL.Env → M (Option Int)) (r : FL.Env) (x : D) (S : Sto) : kT1 l u t r x S = tn (l r S) (kT2 u t r x) := rfl
theorem ev_kT2 (u t : FL.Env → M (Option Int)) (r : FL.Env) (x : D) (lo : Option Int) (S : Sto) : kT2 u t r x lo S = tn (u r S) (kT3 t r x lo) := rfl
theorem ev_kT3 (t : FL.Env → M (Option Int)) (r : FL.Env) (x : D) (lo hi : Option Int) (S : Sto) : kT3 t r x lo hi S = tn (t r S) (kT4 x lo hi) := rfl
theorem ev_kT4 (x : D) (lo hi st : Option Int) (S : Sto) : kT4 x lo hi st S = oR (sl3D (vw S x) lo hi st) S := rfl
def kLR2 (x y : D) (S : Sto) : R D := oR (listRg2 x y) S
def kLR (fb : FEx) (r : FL.Env) (x : D) (S : Sto) : R D := tn (fb r S) (kLR2 x)
theorem ev_listRg (fa fb : FEx) (r : FL.Env) (S : Sto) : eListRg fa fb r S = tn (fa r S) (kLR fb r) := by
  show bnd (fa r) _ S = _
  simp only [bnd, tn]
  cases fa r S with
  | ok a S1 => simp only [kLR, tn]; cases fb r S1 with
    | ok y S2 => simp only [kLR2, oR, opt]; cases listRg2 a y <;> rfl
    | ex x S => rfl
    | no => rfl
  | ex x S => rfl
  | no => rfl
theorem ev_kLR (fb : FEx) (r : FL.Env) (x : D) (S : Sto) : kLR fb r x S = tn (fb r S) (kLR2 x) := rfl
theorem ev_kLR2 (x y : D) (S : Sto) : kLR2 x y S = oR (listRg2 x y) S := rfl
theorem ev_forM (f : FEx) (b : FGx) (body : FSx) (r : FL.Env) (S : Sto) : sForM f b body r S = tn (f r S) (kForM b body r) := by
  show bnd (f r) _ S = _
  simp only [bnd, tn]
  all_goals (cases f r S <;> rfl)
theorem ev_forMr (b : FGx) (body : FSx) (r : FL.Env) (n : Nat) (S : Sto) : kForM b body r (.ref n) S = forR n b body r S[n]? S := rfl
theorem ev_forMl (b : FGx) (body : FSx) (r : FL.Env) (es : List D) (S : Sto) : kForM b body r (.lst es) S = loopD b body es r S := rfl
theorem ev_forMt (b : FGx) (body : FSx) (r : FL.Env) (es : List D) (S : Sto) : kForM b body r (.tup es) S = loopD b body es r S := rfl
theorem ev_forR (n : Nat) (b : FGx) (body : FSx) (r : FL.Env) (es : List D) (S : Sto) : forR n b body r (some (.lst es)) S = loopM n es b body es r S := rfl
def kM3 (g : D → List D → Option D) (x : D) (T : String) (xs : List D) (S : Sto) : R D := oR (if tyD (vw S x) = some T then g (vw S x) (xs.map (vw S)) else none) S
def kM2 (g : D → List D → Option D) (fa : FAx) (r : FL.Env) (x : D) (T : String) (S : Sto) : R D := tn (fa r S) (kM3 g x T)
def kM (ts : List String) (g : D → List D → Option D) (fa : FAx) (r : FL.Env) (x : D) (S : Sto) : R D := tn (oR (tyIn ts (vw S x)) S) (kM2 g fa r x)
theorem ev_meth (ts : List String) (g : D → List D → Option D) (fo : FEx) (fa : FAx) (r : FL.Env) (S : Sto) : eMeth ts g fo fa r S = tn (fo r S) (kM ts g fa r) := by
  show bnd (fo r) _ S = _
  simp only [bnd, tn]
  cases fo r S with
  | ok a S1 => simp only [kM, oR, opt, tn]; cases tyIn ts (vw S1 a) with
    | none => rfl
    | some T =>
      simp only [kM2, tn]
      cases fa r S1 with
      | ok xs S2 =>
        simp only [kM3, oR]
        generalize (if tyD (vw S2 a) = some T then g (vw S2 a) (List.map (vw S2) xs) else none) = o
        cases o <;> rfl
      | ex x S => rfl
      | no => rfl
  | ex x S => rfl
  | no => rfl
theorem ev_kM (ts : List String) (g : D → List D → Option D) (fa : FAx) (r : FL.Env) (x : D) (S : Sto) : kM ts g fa r x S = tn (oR (tyIn ts (vw S x)) S) (kM2 g fa r x) := rfl
theorem ev_kM2 (g : D → List D → Option D) (fa : FAx) (r : FL.Env) (x : D) (T : String) (S : Sto) : kM2 g fa r x T S = tn (fa r S) (kM3 g x T) := rfl
theorem ev_kM3 (g : D → List D → Option D) (x : D) (T : String) (xs : List D) (S : Sto) : kM3 g x T xs S = oR (if tyD (vw S x) = some T then g (vw S x) (xs.map (vw S)) else none) S := rfl
def kM0 (ts : List String) (g : D → List D → Option D) (x : D) (S : Sto) : R D := oR ((tyIn ts (vw S x)).bind fun _ => g (vw S x) []) S
theorem ev_meth0 (ts : List String) (g : D → List D → Option D) (fo : FEx) (r : FL.Env) (S : Sto) : eMeth0 ts g fo r S = tn (fo r S) (kM0 ts g) := by
  show bnd (fo r) _ S = _
  simp only [bnd, tn]
  cases fo r S with
  | ok a S1 => simp only [kM0, oR, opt]; cases (tyIn ts (vw S1 a)).bind fun _ => g (vw S1 a) [] <;> rfl
  | ex x S => rfl
  | no => rfl
theorem ev_kM0 (ts : List String) (g : D → List D → Option D) (x : D) (S : Sto) : kM0 ts g x S = oR ((tyIn ts (vw S x)).bind fun _ => g (vw S x) []) S := rfl
def kCh4 (g' : D → D → Option D) (y z : D) (S : Sto) : R D := oR (g' (vw S y) (vw S z)) S
def kCh3 (g' : D → D → Option D) (fc : FEx) (r : FL.Env) (y : D) : D → Sto → R D
  | .bl true, S => tn (fc r S) (kCh4 g' y)
  | .bl false, S => .ok (.bl false) S
  | _, _ => .no
def kCh2 (g g' : D → D → Option D) (fc : FEx) (r : FL.Env) (x y : D) (S : Sto) : R D := tn (oR (g (vw S x) (vw S y)) S) (kCh3 g' fc r y)
def kCh (g g' : D → D → Option D) (fb fc : FEx) (r : FL.Env) (x : D) (S : Sto) : R D := tn (fb r S) (kCh2 g g' fc r x)
theorem ev_chain (g g' : D → D → Option D) (fa fb fc : FEx) (r : FL.Env) (S : Sto) : eChain g g' fa fb fc r S = tn (fa r S) (kCh g g' fb fc r) := by
  show bnd (fa r) _ S = _
  simp only [bnd, tn]
  cases fa r S with
  | ok a S1 => simp only [kCh, tn]; cases fb r S1 with
    | ok y S2 =>
      simp only [kCh2, oR, opt, tn]
      cases g (vw S2 a) (vw S2 y) with
      | none => rfl
      | some k =>
        cases k with
        | bl b =>
          cases b with
          | false => rfl
          | true =>
            simp only [kCh3, tn, bnd]
            cases fc r S2 with
            | ok z S3 => simp only [kCh4, oR]; cases g' (vw S3 y) (vw S3 z) <;> rfl
            | ex x S => rfl
            | no => rfl
        | _ => rfl
    | ex x S => rfl
    | no => rfl
  | ex x S => rfl
  | no => rfl
theorem ev_kCh (g g' : D → D → Option D) (fb fc : FEx) (r : FL.Env) (x : D) (S : Sto) : kCh g g' fb fc r x S = tn (fb r S) (kCh2 g g' fc r x) := rfl
theorem ev_kCh2 (g g' : D → D → Option D) (fc : FEx) (r : FL.Env) (x y : D) (S : Sto) : kCh2 g g' fc r x y S = tn (oR (g (vw S x) (vw S y)) S) (kCh3 g' fc r y) := rfl
theorem ev_kCh3T (g' : D → D → Option D) (fc : FEx) (r : FL.Env) (y : D) (S : Sto) : kCh3 g' fc r y (.bl true) S = tn (fc r S) (kCh4 g' y) := rfl
theorem ev_kCh3F (g' : D → D → Option D) (fc : FEx) (r : FL.Env) (y : D) (S : Sto) : kCh3 g' fc r y (.bl false) S = .ok (.bl false) S := rfl
theorem ev_kCh4 (g' : D → D → Option D) (y z : D) (S : Sto) : kCh4 g' y z S = oR (g' (vw S y) (vw S z)) S := rfl
def kLs (xs : List D) (S : Sto) : R D := .ok (.lst xs) S
theorem ev_kLs (xs : List D) (S : Sto) : kLs xs S = .ok (.lst xs) S := rfl
def kComp (vs : List Nat) (b : FGx) (t : FTx) (e : FEx) (r : FL.Env) (ds : List D) (S : Sto) : R (List D) := compD b t e (wipeE r vs) ds [] S
theorem ev_kComp (vs : List Nat) (b : FGx) (t : FTx) (e : FEx) (r : FL.Env) (ds : List D) (S : Sto) : kComp vs b t e r ds S = compD b t e (wipeE r vs) ds [] S := rfl
theorem ev_comp (vs : List Nat) (fi : FAx) (b : FGx) (t : FTx) (e : FEx) (r : FL.Env) (S : Sto) : eComp vs fi b t e r S = tn (tn (fi r S) (kComp vs b t e r)) kLs := by
  show bnd (bnd (fi r) _) _ S = _
  simp only [bnd, tn]
  cases fi r S with
  | ok ds S1 => simp only [kComp]; cases compD b t e (wipeE r vs) ds [] S1 <;> rfl
  | ex x S => rfl
  | no => rfl
def kRef (xs : List D) (S : Sto) : R D := .ok (.ref S.length) (S ++ [.lst xs])
theorem ev_kRef (xs : List D) (S : Sto) : kRef xs S = .ok (.ref S.length) (S ++ [.lst xs]) := rfl
theorem ev_compM (vs : List Nat) (fi : FAx) (b : FGx) (t : FTx) (e : FEx) (r : FL.Env) (S : Sto) : eCompM vs fi b t e r S = tn (tn (fi r S) (kComp vs b t e r)) kRef := by
  show bnd (bnd (fi r) _) _ S = _
  simp only [bnd, tn]
  cases fi r S with
  | ok ds S1 => simp only [kComp]; cases compD b t e (wipeE r vs) ds [] S1 <;> rfl
  | ex x S => rfl
  | no => rfl
def kComp2 (vs : List Nat) (b : FGx) (t : FTx) (fi1 : FAx) (vs1 : List Nat) (b1 : FGx) (t1 : FTx) (e : FEx) (r : FL.Env) (ds : List D) (S : Sto) : R (List D) := compD2 b t fi1 vs1 b1 t1 e (wipeE r vs) ds [] S
theorem ev_kComp2 (vs : List Nat) (b : FGx) (t : FTx) (fi1 : FAx) (vs1 : List Nat) (b1 : FGx) (t1 : FTx) (e : FEx) (r : FL.Env) (ds : List D) (S : Sto) : kComp2 vs b t fi1 vs1 b1 t1 e r ds S = compD2 b t fi1 vs1 b1 t1 e (wipeE r vs) ds [] S := rfl
theorem ev_comp2 (vs : List Nat) (fi : FAx) (b : FGx) (t : FTx) (fi1 : FAx) (vs1 : List Nat) (b1 : FGx) (t1 : FTx) (e : FEx) (r : FL.Env) (S : Sto) : eComp2 vs fi b t fi1 vs1 b1 t1 e r S = tn (tn (fi r S) (kComp2 vs b t fi1 vs1 b1 t1 e r)) kLs := by
  show bnd (bnd (fi r) _) _ S = _
  simp only [bnd, tn]
  cases fi r S with
  | ok ds S1 => simp only [kComp2]; cases compD2 b t fi1 vs1 b1 t1 e (wipeE r vs) ds [] S1 <;> rfl
  | ex x S => rfl
  | no => rfl
def kIt (d : D) (S : Sto) : R (List D) := oR (itemsD d) S
theorem ev_iSeq (f : FEx) (r : FL.Env) (S : Sto) : iSeqD f r S = tn (f r S) (kIt) := by
  show bnd (f r) _ S = _
  simp only [bnd, tn]
  cases f r S with
  | ok a S1 => simp only [kIt, oR, opt]; cases itemsD a <;> rfl
  | ex x S => rfl
  | no => rfl
theorem ev_kIt (d : D) (S : Sto) : kIt d S = oR (itemsD d) S := rfl
def kRg (g : List D → Option (List D)) (ds : List D) (S : Sto) : R (List D) := oR (g ds) S
theorem ev_iRange (g : List D → Option (List D)) (f : FAx) (r : FL.Env) (S : Sto) : iRange g f r S = tn (f r S) (kRg g) := by
  show bnd (f r) _ S = _
  simp only [bnd, tn]
  cases f r S with
  | ok a S1 => simp only [kRg, oR, opt]; cases g a <;> rfl
  | ex x S => rfl
  | no => rfl
theorem ev_kRg (g : List D → Option (List D)) (ds : List D) (S : Sto) : kRg g ds S = oR (g ds) S := rfl
def enD (ds : List D) : Option (List D) := one (fun d => (alt d.lst? d.tup?).map enumL) ds
theorem ev_enT (xs : List D) : enD [.tup xs] = some (enumL xs) := rfl
theorem ev_enL (xs : List D) : enD [.lst xs] = some (enumL xs) := rfl
theorem ev_iEnum (f : FAx) (r : FL.Env) (S : Sto) : iEnumD f r S = tn (f r S) (kRg enD) := by
  show bnd (f r) _ S = _
  simp only [bnd, tn]
  cases f r S with
  | ok a S1 => simp only [kRg, oR, opt, enD]; cases one (fun d => (alt d.lst? d.tup?).map enumL) a <;> rfl
  | ex x S => rfl
  | no => rfl
theorem items_lst (xs : List D) : itemsD (.lst xs) = some xs := rfl
theorem items_tup (xs : List D) : itemsD (.tup xs) = some xs := rfl
theorem items_str (x : Str) : itemsD (.str x) = some (x.cps.toList.map fun c => .str ⟨#[c]⟩) := rfl
theorem ev_true (r : FL.Env) (S : Sto) : tTrue r S = .ok true S := rfl
def kRet (d : D) (S : Sto) : R Fl := .ok (.rt d) S
theorem ev_ret (f : FEx) (r : FL.Env) (S : Sto) : sRet f r S = tn (f r S) (kRet) := by
  show bnd (f r) _ S = _
  simp only [bnd, tn]
  all_goals (cases f r S <;> rfl)
theorem ev_kRet (d : D) (S : Sto) : kRet d S = .ok (.rt d) S := rfl
def kEx (r : FL.Env) (d : D) (S : Sto) : R Fl := .ok (.nx r) S
theorem ev_expr (f : FEx) (r : FL.Env) (S : Sto) : sExpr f r S = tn (f r S) (kEx r) := by
  show bnd (f r) _ S = _
  simp only [bnd, tn]
  all_goals (cases f r S <;> rfl)
theorem ev_kEx (r : FL.Env) (d : D) (S : Sto) : kEx r d S = .ok (.nx r) S := rfl
def kNx (r : FL.Env) (S : Sto) : R Fl := .ok (.nx r) S
def kAsg (g : FGx) (r : FL.Env) (d : D) (S : Sto) : R Fl := tn (g d r S) kNx
theorem ev_asg (f : FEx) (g : FGx) (r : FL.Env) (S : Sto) : sAsg f g r S = tn (f r S) (kAsg g r) := by
  show bnd (f r) _ S = _
  simp only [bnd, tn]
  cases f r S with
  | ok a S1 => simp only [kAsg, tn]; cases g a r S1 <;> rfl
  | ex x S => rfl
  | no => rfl
theorem ev_kAsg (g : FGx) (r : FL.Env) (d : D) (S : Sto) : kAsg g r d S = tn (g d r S) kNx := rfl
theorem ev_kNx (r : FL.Env) (S : Sto) : kNx r S = .ok (.nx r) S := rfl
def kSeq (g : FSx) : Fl → Sto → R Fl
  | .nx r, S => g r S
  | .rt d, S => .ok (.rt d) S
  | .bk r, S => .ok (.bk r) S
  | .ct r, S => .ok (.ct r) S
theorem ev_seq (f g : FSx) (r : FL.Env) (S : Sto) : sSeq f g r S = tn (f r S) (kSeq g) := by
  show bnd (f r) _ S = _
  simp only [bnd, tn]
  cases f r S with
  | ok a S1 => cases a <;> rfl
  | ex x S => rfl
  | no => rfl
theorem ev_kSeqN (g : FSx) (r : FL.Env) (S : Sto) : kSeq g (.nx r) S = g r S := rfl
theorem ev_kSeqR (g : FSx) (d : D) (S : Sto) : kSeq g (.rt d) S = .ok (.rt d) S := rfl
theorem ev_kSeqB (g : FSx) (r : FL.Env) (S : Sto) : kSeq g (.bk r) S = .ok (.bk r) S := rfl
theorem ev_kSeqC (g : FSx) (r : FL.Env) (S : Sto) : kSeq g (.ct r) S = .ok (.ct r) S := rfl
def kIfS (f g : FSx) (r : FL.Env) : Bool → Sto → R Fl
  | true, S => f r S
  | false, S => g r S
theorem ev_ifS (t : FTx) (f g : FSx) (r : FL.Env) (S : Sto) : sIf t f g r S = tn (t r S) (kIfS f g r) := by
  show bnd (t r) _ S = _
  simp only [bnd, tn]
  cases t r S with
  | ok a S1 => cases a <;> rfl
  | ex x S => rfl
  | no => rfl
theorem ev_kIfST (f g : FSx) (r : FL.Env) (S : Sto) : kIfS f g r true S = f r S := rfl
theorem ev_kIfSF (f g : FSx) (r : FL.Env) (S : Sto) : kIfS f g r false S = g r S := rfl
def kFor (b : FGx) (body : FSx) (r : FL.Env) (ds : List D) (S : Sto) : R Fl := loopD b body ds r S
theorem ev_for (fi : FAx) (b : FGx) (body : FSx) (r : FL.Env) (S : Sto) : sFor fi b body r S = tn (fi r S) (kFor b body r) := by
  show bnd (fi r) _ S = _
  simp only [bnd, tn]
  all_goals (cases fi r S <;> rfl)
theorem ev_kFor (b : FGx) (body : FSx) (r : FL.Env) (ds : List D) (S : Sto) : kFor b body r ds S = loopD b body ds r S := rfl
theorem ev_next (r : FL.Env) (S : Sto) : sNext r S = .ok (.nx r) S := rfl
theorem ev_retN (r : FL.Env) (S : Sto) : sRetN r S = .ok (.rt .non) S := rfl
theorem ev_break (r : FL.Env) (S : Sto) : sBreak r S = .ok (.bk r) S := rfl
theorem ev_cont (r : FL.Env) (S : Sto) : sCont r S = .ok (.ct r) S := rfl
def kPar (i j : Nat) (r : FL.Env) : List D → Sto → R Fl
  | [d, e], S => .ok (.nx ((r.set i (some d)).set j (some e))) S
  | _, _ => .no
theorem ev_par (i j : Nat) (f : FAx) (r : FL.Env) (S : Sto) : sPar i j f r S = tn (f r S) (kPar i j r) := by
  show bnd (f r) _ S = _
  simp only [bnd, tn]
  cases f r S with
  | ok a S1 => match a with
    | [] => rfl
    | [_] => rfl
    | [_, _] => rfl
    | _ :: _ :: _ :: _ => rfl
  | ex x S => rfl
  | no => rfl
theorem ev_kPar (i j : Nat) (r : FL.Env) (d e : D) (S : Sto) : kPar i j r [d, e] S = .ok (.nx ((r.set i (some d)).set j (some e))) S := rfl
def kPar3 (i j l : Nat) (r : FL.Env) : List D → Sto → R Fl
  | [d, e, g], S => .ok (.nx (((r.set i (some d)).set j (some e)).set l (some g))) S
  | _, _ => .no
theorem ev_par3 (i j l : Nat) (f : FAx) (r : FL.Env) (S : Sto) : sPar3 i j l f r S = tn (f r S) (kPar3 i j l r) := by
  show bnd (f r) _ S = _
  simp only [bnd, tn]
  cases f r S with
  | ok a S1 => match a with
    | [] => rfl
    | [_] => rfl
    | [_, _] => rfl
    | [_, _, _] => rfl
    | _ :: _ :: _ :: _ :: _ => rfl
  | ex x S => rfl
  | no => rfl
theorem ev_kPar3 (i j l : Nat) (r : FL.Env) (d e g : D) (S : Sto) : kPar3 i j l r [d, e, g] S = .ok (.nx (((r.set i (some d)).set j (some e)).set l (some g))) S := rfl
theorem ev_gName (i : Nat) (d : D) (r : FL.Env) (S : Sto) : gName' i d r S = .ok (r.set i (some d)) S := rfl
theorem ev_gTup (n : Nat) (g : List D → FL.Env → M FL.Env) (ds : List D) (r : FL.Env) (S : Sto) : gTup' n g (.tup ds) r S = if ds.length = n then g ds r S else .no := by unfold gTup'; simp only; split <;> rfl
theorem ev_gsNil (r : FL.Env) (S : Sto) : gsNil [] r S = .ok r S := by unfold gsNil; rw [if_pos rfl]; rfl
def kGs (g : List D → FL.Env → M FL.Env) (ds : List D) (r : FL.Env) (S : Sto) : R FL.Env := g ds r S
theorem ev_gsCons (f : FGx) (g : List D → FL.Env → M FL.Env) (d : D) (ds : List D) (r : FL.Env) (S : Sto) : gsCons f g (d :: ds) r S = tn (f d r S) (kGs g ds) := by
  show bnd (f d r) _ S = _
  simp only [bnd, tn]
  cases f d r S <;> rfl
theorem ev_kGs (g : List D → FL.Env → M FL.Env) (ds : List D) (r : FL.Env) (S : Sto) : kGs g ds r S = g ds r S := rfl
def kSub4 (r : FL.Env) (_ : Unit) (S : Sto) : R FL.Env := .ok r S
def kSub3 (d : D) (r : FL.Env) (i : D) (n : Nat) (S : Sto) : R FL.Env := tn (setAt n (vw S i) d S) (kSub4 r)
def kSub2 (d : D) (r : FL.Env) (x i : D) (S : Sto) : R FL.Env := tn (oR x.ref? S) (kSub3 d r i)
def kSub (fi : FEx) (d : D) (r : FL.Env) (x : D) (S : Sto) : R FL.Env := tn (fi r S) (kSub2 d r x)
theorem ev_gSub (fo fi : FEx) (d : D) (r : FL.Env) (S : Sto) : gSub' fo fi d r S = tn (fo r S) (kSub fi d r) := by
  show bnd (fo r) _ S = _
  simp only [bnd, tn]
  cases fo r S with
  | ok x S1 =>
    simp only [kSub, tn]
    cases fi r S1 with
    | ok i S2 =>
      simp only [kSub2, oR, opt, tn]
      cases x.ref? with
      | none => rfl
      | some n => simp only [kSub3, tn]; cases setAt n (vw S2 i) d S2 <;> rfl
    | ex x S => rfl
    | no => rfl
  | ex x S => rfl
  | no => rfl
theorem ev_kSub (fi : FEx) (d : D) (r : FL.Env) (x : D) (S : Sto) : kSub fi d r x S = tn (fi r S) (kSub2 d r x) := rfl
theorem ev_kSub2 (d : D) (r : FL.Env) (x i : D) (S : Sto) : kSub2 d r x i S = tn (oR x.ref? S) (kSub3 d r i) := rfl
theorem ev_kSub3 (d : D) (r : FL.Env) (i : D) (n : Nat) (S : Sto) : kSub3 d r i n S = tn (setAt n (vw S i) d S) (kSub4 r) := rfl
theorem ev_kSub4 (r : FL.Env) (u : Unit) (S : Sto) : kSub4 r u S = .ok r S := rfl
def kMu4 (g : Sto → Nat → Ob → List D → Option (D × Ob)) (n : Nat) (T : String) (xs : List D) (S : Sto) : R D := mutAt T g n xs S
def kMu3 (g : Sto → Nat → Ob → List D → Option (D × Ob)) (fa : FAx) (r : FL.Env) (n : Nat) (T : String) (S : Sto) : R D := tn (fa r S) (kMu4 g n T)
def kMu2 (ts : List String) (g : Sto → Nat → Ob → List D → Option (D × Ob)) (fa : FAx) (r : FL.Env) (n : Nat) (S : Sto) : R D := tn (oR (obIn ts S[n]?) S) (kMu3 g fa r n)
def kMu (ts : List String) (g : Sto → Nat → Ob → List D → Option (D × Ob)) (fa : FAx) (r : FL.Env) (x : D) (S : Sto) : R D := tn (oR x.ref? S) (kMu2 ts g fa r)
theorem ev_mut (ts : List String) (g : Sto → Nat → Ob → List D → Option (D × Ob)) (fo : FEx) (fa : FAx) (r : FL.Env) (S : Sto) : eMut ts g fo fa r S = tn (fo r S) (kMu ts g fa r) := by
  show bnd (fo r) _ S = _
  simp only [bnd, tn]
  cases fo r S with
  | ok a S1 => simp only [kMu, oR, opt, tn]; cases a.ref? with
    | none => rfl
    | some n =>
      simp only [kMu2, oR, tn]
      cases obIn ts S1[n]? with
      | none => rfl
      | some T => simp only [kMu3, tn]; cases fa r S1 <;> rfl
  | ex x S => rfl
  | no => rfl
theorem ev_kMu (ts : List String) (g : Sto → Nat → Ob → List D → Option (D × Ob)) (fa : FAx) (r : FL.Env) (x : D) (S : Sto) : kMu ts g fa r x S = tn (oR x.ref? S) (kMu2 ts g fa r) := rfl
theorem ev_kMu2 (ts : List String) (g : Sto → Nat → Ob → List D → Option (D × Ob)) (fa : FAx) (r : FL.Env) (n : Nat) (S : Sto) : kMu2 ts g fa r n S = tn (oR (obIn ts S[n]?) S) (kMu3 g fa r n) := rfl
theorem ev_kMu3 (g : Sto → Nat → Ob → List D → Option (D × Ob)) (fa : FAx) (r : FL.Env) (n : Nat) (T : String) (S : Sto) : kMu3 g fa r n T S = tn (fa r S) (kMu4 g n T) := rfl
theorem ev_kMu4 (g : Sto → Nat → Ob → List D → Option (D × Ob)) (n : Nat) (T : String) (xs : List D) (S : Sto) : kMu4 g n T xs S = mutAt T g n xs S := rfl
def catR (S : Sto) : D → D → R D
  | .lst xs, .lst ys => if xs.length + ys.length ≤ 1000000 then .ok (.ref S.length) (S ++ [.lst (xs ++ ys)]) else .no
  | _, _ => .no
def kCat2 (x y : D) (S : Sto) : R D := catR S (vw S x) (vw S y)
def kCat (fb : FEx) (r : FL.Env) (x : D) (S : Sto) : R D := tn (fb r S) (kCat2 x)
theorem ev_catM (fa fb : FEx) (r : FL.Env) (S : Sto) : eCatM fa fb r S = tn (fa r S) (kCat fb r) := by
  show bnd (fa r) _ S = _
  simp only [bnd, tn]
  cases fa r S with
  | ok a S1 => simp only [kCat, tn]; cases fb r S1 with
    | ok y S2 => rfl
    | ex x S => rfl
    | no => rfl
  | ex x S => rfl
  | no => rfl
theorem ev_kCat (fb : FEx) (r : FL.Env) (x : D) (S : Sto) : kCat fb r x S = tn (fb r S) (kCat2 x) := rfl
theorem ev_kCat2 (x y : D) (S : Sto) : kCat2 x y S = catR S (vw S x) (vw S y) := rfl
theorem ev_catR (S : Sto) (xs ys : List D) : catR S (.lst xs) (.lst ys) = if xs.length + ys.length ≤ 1000000 then .ok (.ref S.length) (S ++ [.lst (xs ++ ys)]) else .no := rfl
theorem vw_non (S : Sto)  : vw S (.non ) = .non  := rfl
theorem vw_bl (S : Sto) (b : Bool) : vw S (.bl b) = .bl b := rfl
theorem vw_int (S : Sto) (i : Int) : vw S (.int i) = .int i := rfl
theorem vw_str (S : Sto) (x : Str) : vw S (.str x) = .str x := rfl
theorem vw_lst (S : Sto) (xs : List D) : vw S (.lst xs) = .lst xs := rfl
theorem vw_tup (S : Sto) (xs : List D) : vw S (.tup xs) = .tup xs := rfl
theorem vw_dct (S : Sto) (xs : List (Key × D)) : vw S (.dct xs) = .dct xs := rfl
theorem vw_ref (S : Sto) (n : Nat) : vw S (.ref n) = vwO n S[n]? := rfl
theorem vwO_lst (n : Nat) (xs : List D) : vwO n (some (.lst xs)) = .lst xs := rfl
theorem vwO_dct (n : Nat) (xs : List (Key × D)) : vwO n (some (.dct xs)) = .dct xs := rfl
theorem tru_bl (b : Bool) : truD (.bl b) = some b := rfl
theorem tru_int (i : Int) : truD (.int i) = some (i != 0) := rfl
theorem tru_lst (xs : List D) : truD (.lst xs) = some (!xs.isEmpty) := rfl
theorem tru_tup (xs : List D) : truD (.tup xs) = some (!xs.isEmpty) := rfl
theorem tru_non : truD .non = some false := rfl
theorem add_int (i j : Int) : addD (.int i) (.int j) = some (.int (i + j)) := rfl
theorem add_lst (xs ys : List D) : addD (.lst xs) (.lst ys) = cap (xs.length + ys.length) (.lst (xs ++ ys)) := by simp only [addD, alt, on2, D.int?, D.str?, D.lst?, D.tup?]; cases cap (xs.length + ys.length) (D.lst (xs ++ ys)) <;> rfl
theorem add_tup (xs ys : List D) : addD (.tup xs) (.tup ys) = cap (xs.length + ys.length) (.tup (xs ++ ys)) := by simp only [addD, alt, on2, D.int?, D.str?, D.lst?, D.tup?]
theorem add_str (x y : Str) : addD (.str x) (.str y) = cap (x.length + y.length) (.str (x ++ y)) := by simp only [addD, alt, on2, D.int?, D.str?, D.lst?, D.tup?]; cases cap (x.length + y.length) (D.str (x ++ y)) <;> rfl
theorem sub_int (i j : Int) : subD (.int i) (.int j) = some (.int (i - j)) := rfl
theorem neg_int (i : Int) : negD (.int i) = some (.int (-i)) := rfl
theorem gt_int (i j : Int) : gtD (.int i) (.int j) = some (.bl (decide (j < i))) := rfl
theorem ge_int (i j : Int) : geD (.int i) (.int j) = some (.bl (decide (j ≤ i))) := rfl
theorem lt_int (i j : Int) : ltD (.int i) (.int j) = some (.bl (decide (i < j))) := rfl
theorem le_int (i j : Int) : leD (.int i) (.int j) = some (.bl (decide (i ≤ j))) := rfl
theorem len_lst (xs : List D) : lenD [.lst xs] = some (.int xs.length) := rfl
theorem len_tup (xs : List D) : lenD [.tup xs] = some (.int xs.length) := rfl
theorem len_dct (xs : List (Key × D)) : lenD [.dct xs] = some (.int xs.length) := rfl
theorem len_str (x : Str) : lenD [.str x] = cap x.length (.int x.length) := by simp only [lenD, one, alt, on1, D.lst?, D.tup?, D.str?, D.dct?]; cases cap x.length (D.int x.length) <;> rfl
theorem int_int (i : Int) : FL.intD [.int i] = some (.int i) := rfl
theorem tuple_lst (xs : List D) : tupleD [.lst xs] = some (.tup xs) := rfl
theorem tuple_tup (xs : List D) : tupleD [.tup xs] = some (.tup xs) := rfl
theorem list_lst (xs : List D) : listD [.lst xs] = some (.lst xs) := rfl
theorem list_tup (xs : List D) : listD [.tup xs] = some (.lst xs) := rfl
theorem sl_lst (xs : List D) (lo hi : Option Int) : slD (.lst xs) lo hi = some (.lst (cutL xs lo hi)) := rfl
theorem sl_tup (xs : List D) (lo hi : Option Int) : slD (.tup xs) lo hi = some (.tup (cutL xs lo hi)) := rfl
theorem is_non (d : D) : isND d .non = some (.bl d.non?) := rfl
theorem isnt_non (d : D) : isNND d .non = some (.bl (!d.non?)) := rfl
theorem non_bl (b : Bool) : D.non? (.bl b) = false := rfl
theorem non_int (i : Int) : D.non? (.int i) = false := rfl
theorem non_str (x : Str) : D.non? (.str x) = false := rfl
theorem non_lst (xs : List D) : D.non? (.lst xs) = false := rfl
theorem non_tup (xs : List D) : D.non? (.tup xs) = false := rfl
theorem non_non : D.non? .non = true := rfl
theorem int_int? (i : Int) : D.int? (.int i) = some i := rfl
theorem ref_ref? (n : Nat) : D.ref? (.ref n) = some n := rfl
theorem alt_tup (xs : List D) : alt (D.tup? (.tup xs)) (D.lst? (.tup xs)) = some xs := rfl
theorem alt_lst (xs : List D) : alt (D.tup? (.lst xs)) (D.lst? (.lst xs)) = some xs := rfl
theorem isi_int_non  : isiD .int (.non ) = some (.bl false) := rfl
theorem isi_int_bl (b : Bool) : isiD .int (.bl b) = some (.bl true) := rfl
theorem isi_int_int (i : Int) : isiD .int (.int i) = some (.bl true) := rfl
theorem isi_int_str (x : Str) : isiD .int (.str x) = some (.bl false) := rfl
theorem isi_int_lst (xs : List D) : isiD .int (.lst xs) = some (.bl false) := rfl
theorem isi_int_tup (xs : List D) : isiD .int (.tup xs) = some (.bl false) := rfl
theorem isi_bool_non  : isiD .bool (.non ) = some (.bl false) := rfl
theorem isi_bool_bl (b : Bool) : isiD .bool (.bl b) = some (.bl true) := rfl
theorem isi_bool_int (i : Int) : isiD .bool (.int i) = some (.bl false) := rfl
theorem isi_bool_str (x : Str) : isiD .bool (.str x) = some (.bl false) := rfl
theorem isi_bool_lst (xs : List D) : isiD .bool (.lst xs) = some (.bl false) := rfl
theorem isi_bool_tup (xs : List D) : isiD .bool (.tup xs) = some (.bl false) := rfl
theorem isi_str_non  : isiD .str (.non ) = some (.bl false) := rfl
theorem isi_str_bl (b : Bool) : isiD .str (.bl b) = some (.bl false) := rfl
theorem isi_str_int (i : Int) : isiD .str (.int i) = some (.bl false) := rfl
theorem isi_str_str (x : Str) : isiD .str (.str x) = some (.bl true) := rfl
theorem isi_str_lst (xs : List D) : isiD .str (.lst xs) = some (.bl false) := rfl
theorem isi_str_tup (xs : List D) : isiD .str (.tup xs) = some (.bl false) := rfl
theorem isi_tuple_non  : isiD .tuple (.non ) = some (.bl false) := rfl
theorem isi_tuple_bl (b : Bool) : isiD .tuple (.bl b) = some (.bl false) := rfl
theorem isi_tuple_int (i : Int) : isiD .tuple (.int i) = some (.bl false) := rfl
theorem isi_tuple_str (x : Str) : isiD .tuple (.str x) = some (.bl false) := rfl
theorem isi_tuple_lst (xs : List D) : isiD .tuple (.lst xs) = some (.bl false) := rfl
theorem isi_tuple_tup (xs : List D) : isiD .tuple (.tup xs) = some (.bl true) := rfl
theorem isi_list_non  : isiD .list (.non ) = some (.bl false) := rfl
theorem isi_list_bl (b : Bool) : isiD .list (.bl b) = some (.bl false) := rfl
theorem isi_list_int (i : Int) : isiD .list (.int i) = some (.bl false) := rfl
theorem isi_list_str (x : Str) : isiD .list (.str x) = some (.bl false) := rfl
theorem isi_list_lst (xs : List D) : isiD .list (.lst xs) = some (.bl true) := rfl
theorem isi_list_tup (xs : List D) : isiD .list (.tup xs) = some (.bl false) := rfl
theorem isi_dict_non  : isiD .dict (.non ) = some (.bl false) := rfl
theorem isi_dict_bl (b : Bool) : isiD .dict (.bl b) = some (.bl false) := rfl
theorem isi_dict_int (i : Int) : isiD .dict (.int i) = some (.bl false) := rfl
theorem isi_dict_str (x : Str) : isiD .dict (.str x) = some (.bl false) := rfl
theorem isi_dict_lst (xs : List D) : isiD .dict (.lst xs) = some (.bl false) := rfl
theorem isi_dict_tup (xs : List D) : isiD .dict (.tup xs) = some (.bl false) := rfl
theorem tyIn_lst2 (xs : List D) : tyIn ["list", "tuple"] (.lst xs) = some "list" := by unfold tyIn tyD; simp
theorem tyD_lst (xs : List D) : tyD (.lst xs) = some "list" := rfl
theorem tyIn_tup2 (xs : List D) : tyIn ["list", "tuple"] (.tup xs) = some "tuple" := by unfold tyIn tyD; simp
theorem tyD_tup (xs : List D) : tyD (.tup xs) = some "tuple" := rfl
theorem tyIn_str (x : Str) : tyIn ["str"] (.str x) = some "str" := by unfold tyIn tyD; simp
theorem tyD_str (x : Str) : tyD (.str x) = some "str" := rfl
theorem tyIn_dct (xs : List (Key × D)) : tyIn ["dict"] (.dct xs) = some "dict" := by unfold tyIn tyD; simp
theorem tyD_dct (xs : List (Key × D)) : tyD (.dct xs) = some "dict" := rfl
def cStep (b : FGx) (t : FTx) (e : FEx) (r0 : FL.Env) (d : D) : M (Option D) := bnd (noEx (b d r0)) fun r1 => bnd (noEx (t r1)) fun k => if k = true then bnd (noEx (e r1)) fun y => FL.ret (some y) else FL.ret none
def kSome (y : D) (S : Sto) : R (Option D) := .ok (some y) S
def kC2 (e : FEx) (r1 : FL.Env) : Bool → Sto → R (Option D)
  | true, S => tn (nx (e r1 S)) kSome
  | false, S => .ok none S
def kC (t : FTx) (e : FEx) (r1 : FL.Env) (S : Sto) : R (Option D) := tn (nx (t r1 S)) (kC2 e r1)
theorem noEx_nx {α : Type} (m : M α) (S : Sto) : noEx m S = nx (m S) := by unfold noEx nx; cases m S <;> rfl
theorem ev_cStep (b : FGx) (t : FTx) (e : FEx) (r0 : FL.Env) (d : D) (S : Sto) : cStep b t e r0 d S = tn (nx (b d r0 S)) (kC t e) := by
  unfold cStep
  simp only [bnd, noEx_nx, tn]
  cases nx (b d r0 S) with
  | ok r1 S1 =>
    simp only [kC, tn]
    cases nx (t r1 S1) with
    | ok k S2 =>
      cases k with
      | false => rfl
      | true =>
        simp only [kC2, tn, if_true, bnd, noEx_nx]
        cases nx (e r1 S2) <;> rfl
    | ex x S => rfl
    | no => rfl
  | ex x S => rfl
  | no => rfl
theorem ev_kC (t : FTx) (e : FEx) (r1 : FL.Env) (S : Sto) : kC t e r1 S = tn (nx (t r1 S)) (kC2 e r1) := rfl
theorem ev_kC2T (e : FEx) (r1 : FL.Env) (S : Sto) : kC2 e r1 true S = tn (nx (e r1 S)) kSome := rfl
theorem ev_kC2F (e : FEx) (r1 : FL.Env) (S : Sto) : kC2 e r1 false S = .ok none S := rfl
theorem ev_kSome (y : D) (S : Sto) : kSome y S = .ok (some y) S := rfl
def cStep2 (b : FGx) (t : FTx) (fi1 : FAx) (vs1 : List Nat) (b1 : FGx) (t1 : FTx) (e : FEx) (r0 : FL.Env) (d : D) (acc : List D) : M (List D) := bnd (noEx (b d r0)) fun r1 => bnd (noEx (t r1)) fun k => if k = true then bnd (noEx (fi1 r1)) fun es => noEx (compD b1 t1 e (wipeE r1 vs1) es acc) else FL.ret acc
def kD3 (vs1 : List Nat) (b1 : FGx) (t1 : FTx) (e : FEx) (r1 : FL.Env) (acc es : List D) (S : Sto) : R (List D) := nx (compD b1 t1 e (wipeE r1 vs1) es acc S)
def kD2 (fi1 : FAx) (vs1 : List Nat) (b1 : FGx) (t1 : FTx) (e : FEx) (acc : List D) (r1 : FL.Env) : Bool → Sto → R (List D)
  | true, S => tn (nx (fi1 r1 S)) (kD3 vs1 b1 t1 e r1 acc)
  | false, S => .ok acc S
def kD (t : FTx) (fi1 : FAx) (vs1 : List Nat) (b1 : FGx) (t1 : FTx) (e : FEx) (acc : List D) (r1 : FL.Env) (S : Sto) : R (List D) := tn (nx (t r1 S)) (kD2 fi1 vs1 b1 t1 e acc r1)
theorem ev_cStep2 (b : FGx) (t : FTx) (fi1 : FAx) (vs1 : List Nat) (b1 : FGx) (t1 : FTx) (e : FEx) (r0 : FL.Env) (d : D) (acc : List D) (S : Sto) : cStep2 b t fi1 vs1 b1 t1 e r0 d acc S = tn (nx (b d r0 S)) (kD t fi1 vs1 b1 t1 e acc) := by
  unfold cStep2
  simp only [bnd, noEx_nx, tn]
  cases nx (b d r0 S) with
  | ok r1 S1 =>
    simp only [kD, tn]
    cases nx (t r1 S1) with
    | ok k S2 =>
      cases k with
      | false => rfl
      | true =>
        simp only [kD2, tn, if_true, bnd, noEx_nx, kD3]
        all_goals (cases nx (fi1 r1 S2) <;> rfl)
    | ex x S => rfl
    | no => rfl
  | ex x S => rfl
  | no => rfl
theorem ev_kD (t : FTx) (fi1 : FAx) (vs1 : List Nat) (b1 : FGx) (t1 : FTx) (e : FEx) (acc : List D) (r1 : FL.Env) (S : Sto) : kD t fi1 vs1 b1 t1 e acc r1 S = tn (nx (t r1 S)) (kD2 fi1 vs1 b1 t1 e acc r1) := rfl
theorem ev_kD2T (fi1 : FAx) (vs1 : List Nat) (b1 : FGx) (t1 : FTx) (e : FEx) (acc : List D) (r1 : FL.Env) (S : Sto) : kD2 fi1 vs1 b1 t1 e acc r1 true S = tn (nx (fi1 r1 S)) (kD3 vs1 b1 t1 e r1 acc) := rfl
theorem ev_kD2F (fi1 : FAx) (vs1 : List Nat) (b1 : FGx) (t1 : FTx) (e : FEx) (acc : List D) (r1 : FL.Env) (S : Sto) : kD2 fi1 vs1 b1 t1 e acc r1 false S = .ok acc S := rfl
theorem ev_kD3 (vs1 : List Nat) (b1 : FGx) (t1 : FTx) (e : FEx) (r1 : FL.Env) (acc es : List D) (S : Sto) : kD3 vs1 b1 t1 e r1 acc es S = nx (compD b1 t1 e (wipeE r1 vs1) es acc S) := rfl
def lStep (b : FGx) (body : FSx) (d : D) (r : FL.Env) : M Fl := bnd (b d r) fun r1 => body r1
def kL (body : FSx) (r1 : FL.Env) (S : Sto) : R Fl := body r1 S
theorem ev_lStep (b : FGx) (body : FSx) (d : D) (r : FL.Env) (S : Sto) : lStep b body d r S = tn (b d r S) (kL body) := by
  show bnd (b d r) _ S = _
  simp only [bnd, tn]
  cases b d r S <;> rfl
theorem ev_kL (body : FSx) (r1 : FL.Env) (S : Sto) : kL body r1 S = body r1 S := rfl
end SS
end
section
set_option Elab.async false
set_option linter.all false
set_option maxRecDepth 100000
set_option autoImplicit false
set_option maxHeartbeats 2000000
namespace SS
open PySem PySem.Spec PyProof.Rows L2 FL
/-! ## the end of a def -/
theorem cut_len {S S' : Sto} (d : D) (h : S'.length = S.length) : cutR S d S' = .ok d S' := by unfold cutR; rw [if_pos h]
theorem kept_app (S X : Sto) : Kept S (S ++ X) := fun i o hi e => by
  rw [List.getElem?_append_left hi] at e
  exact .inl e
theorem handed_lt {L : Nat} {S' : Sto} {d : D} (h : d.lt L = true) : handed L S' d = some d := by unfold handed; rw [if_pos h]
theorem cut_app (S X : Sto) (d : D) (h : d.lt S.length = true) : cutR S d (S ++ X) = .ok d S := by
  unfold cutR
  by_cases hl : (S ++ X).length = S.length
  · have : X = [] := by
      rw [List.length_append] at hl
      exact List.length_eq_zero_iff.mp (by omega)
    subst this
    rw [if_pos hl, List.append_nil]
  · rw [if_neg hl, if_pos (kept_app S X), handed_lt h]
    simp
theorem cut_list (S X : Sto) (xs : List D) (h : D.ltAll S.length xs = true) : cutR S (.ref S.length) (S ++ .lst xs :: X) = .ok (.lst xs) S := by
  unfold cutR
  rw [if_neg (by simp), if_pos (kept_app S _)]
  have : handed S.length (S ++ .lst xs :: X) (.ref S.length) = some (.lst xs) := by
    unfold handed
    rw [if_neg (by simp [D.lt])]
    simp [D.ref?, h]
  rw [this]
  simp
theorem done_nx (S S' : Sto) (r : FL.Env) (h : S'.length = S.length) : doneR false S (.ok (.nx r) S') = .ok .non S' := by
  show cutR S .non S' = _
  exact cut_len _ h
theorem done_rt (S S' : Sto) (d : D) (h : S'.length = S.length) : doneR false S (.ok (.rt d) S') = .ok d S' := by
  show cutR S d S' = _
  exact cut_len _ h
theorem done_eq (S : Sto) (d : D) : doneR false S (.ok (.rt d) S) = .ok d S := done_rt S S d rfl
theorem few_ok {α : Type} {xs : List α} (h : xs.length ≤ 1000000) : few xs = some xs := by unfold few; rw [if_pos h]
theorem cap_ok {α : Type} {n : Nat} {a : α} (h : n ≤ 1000000) : cap n a = some a := by unfold cap; rw [if_pos h]
theorem modD_int {i j : Int} (h : 0 < j) : modD (.int i) (.int j) = some (.int (i % j)) := by simp only [modD, ii, on2, D.int?, guard', decide_eq_true h, if_true]
theorem fdivD_int {i j : Int} (h : 0 < j) (h2 : j < 1073741824) : fdivD (.int i) (.int j) = some (.int (i / j)) := by simp only [fdivD, ii, on2, D.int?, guard', decide_eq_true (⟨h, h2⟩ : 0 < j ∧ j < 1073741824), if_true]
/-! ## comparing -/
theorem eqD_str (x y : Str) : eqD (.str x) (.str y) = some (.bl (x == y)) := by simp [eqD, pyD, toPy, PyData.depth, PyData.eqv]
theorem eqD_int (x y : Int) : eqD (.int x) (.int y) = some (.bl (x == y)) := by simp [eqD, pyD, toPy, PyData.depth, PyData.eqv]
theorem neD_str (x y : Str) : neD (.str x) (.str y) = some (.bl (!(x == y))) := by simp [neD, pyD, toPy, PyData.depth, PyData.eqv]
/-! ## plain data without truth values -/
mutual
def nb : D → Bool
  | .non => true
  | .int _ => true
  | .str _ => true
  | .lst xs => nbs xs
  | .tup xs => nbs xs
  | _ => false
def nbs : List D → Bool
  | [] => true
  | d :: ds => nb d && nbs ds
end
mutual
def dep : D → Nat
  | .lst xs => deps xs + 1
  | .tup xs => deps xs + 1
  | _ => 0
def deps : List D → Nat
  | [] => 0
  | d :: ds => max (dep d) (deps ds)
end
mutual
def py : D → PyData
  | .non => .none
  | .int i => .int i
  | .str x => .str x
  | .lst xs => .list (pys xs)
  | .tup xs => .tuple (pys xs)
  | .bl b => .bool b
  | _ => .none
def pys : List D → List PyData
  | [] => []
  | d :: ds => py d :: pys ds
end
mutual
theorem toPy_nb : ∀ d : D, nb d = true → toPy d = some (py d)
  | .non, _ => rfl
  | .int _, _ => rfl
  | .str _, _ => rfl
  | .lst xs, h => by simp only [nb] at h; simp only [toPy, py, toPys_nb xs h, Option.map_some]
  | .tup xs, h => by simp only [nb] at h; simp only [toPy, py, toPys_nb xs h, Option.map_some]
  | .bl _, h => by simp [nb] at h
  | .dct _, h => by simp [nb] at h
  | .fn _ _, h => by simp [nb] at h
  | .obj _ _ _, h => by simp [nb] at h
  | .ref _, h => by simp [nb] at h
theorem toPys_nb : ∀ ds : List D, nbs ds = true → toPys ds = some (pys ds)
  | [], _ => rfl
  | d :: ds, h => by
    obtain ⟨h1, h2⟩ := Bool.and_eq_true_iff.mp (show (nb d && nbs ds) = true from h)
    simp only [toPys, pys, toPy_nb d h1, toPys_nb ds h2]
end
mutual
theorem dep_py : ∀ d : D, nb d = true → (py d).depth = dep d
  | .non, _ => rfl
  | .int _, _ => rfl
  | .str _, _ => rfl
  | .lst xs, h => by simp only [nb] at h; simp only [py, PyData.depth, dep, deps_pys xs h]
  | .tup xs, h => by simp only [nb] at h; simp only [py, PyData.depth, dep, deps_pys xs h]
  | .bl _, h => by simp [nb] at h
  | .dct _, h => by simp [nb] at h
  | .fn _ _, h => by simp [nb] at h
  | .obj _ _ _, h => by simp [nb] at h
  | .ref _, h => by simp [nb] at h
theorem deps_pys : ∀ ds : List D, nbs ds = true → PyData.depthAll (pys ds) = deps ds
  | [], _ => rfl
  | d :: ds, h => by
    obtain ⟨h1, h2⟩ := Bool.and_eq_true_iff.mp (show (nb d && nbs ds) = true from h)
    simp only [pys, PyData.depthAll, deps, dep_py d h1, deps_pys ds h2]
end
theorem pyD_nb {d : D} (h : nb d = true) (h2 : dep d ≤ 64) : pyD d = some (py d) := by
  unfold pyD
  rw [toPy_nb d h]
  simp only [Option.bind_some, dep_py d h]
  rw [if_pos h2]
mutual
theorem eqv_nb : ∀ (d e : D), nb d = true → nb e = true → ((py d).eqv (py e) = true ↔ d = e)
  | .non, e, _, h => by cases e <;> simp_all [nb, py, PyData.eqv]
  | .int _, e, _, h => by cases e <;> simp_all [nb, py, PyData.eqv]
  | .str _, e, _, h => by cases e <;> simp_all [nb, py, PyData.eqv]
  | .lst xs, e, h1, h => by
    cases e with
    | lst ys =>
      simp only [nb] at h1 h
      simp only [py, PyData.eqv, D.lst.injEq]
      exact eqvs_nb xs ys h1 h
    | _ => simp_all [nb, py, PyData.eqv]
  | .tup xs, e, h1, h => by
    cases e with
    | tup ys =>
      simp only [nb] at h1 h
      simp only [py, PyData.eqv, D.tup.injEq]
      exact eqvs_nb xs ys h1 h
    | _ => simp_all [nb, py, PyData.eqv]
  | .bl _, _, h, _ => by simp [nb] at h
  | .dct _, _, h, _ => by simp [nb] at h
  | .fn _ _, _, h, _ => by simp [nb] at h
  | .obj _ _ _, _, h, _ => by simp [nb] at h
  | .ref _, _, h, _ => by simp [nb] at h
theorem eqvs_nb : ∀ (ds es : List D), nbs ds = true → nbs es = true → (PyData.eqvAll (pys ds) (pys es) = true ↔ ds = es)
  | [], [], _, _ => by simp [pys, PyData.eqvAll]
  | [], _ :: _, _, _ => by simp [pys, PyData.eqvAll]
  | _ :: _, [], _, _ => by simp [pys, PyData.eqvAll]
  | d :: ds, e :: es, h1, h2 => by
    obtain ⟨a1, a2⟩ := Bool.and_eq_true_iff.mp (show (nb d && nbs ds) = true from h1)
    obtain ⟨b1, b2⟩ := Bool.and_eq_true_iff.mp (show (nb e && nbs es) = true from h2)
    simp only [pys, PyData.eqvAll, Bool.and_eq_true, List.cons.injEq, eqv_nb d e a1 b1, eqvs_nb ds es a2 b2]
end
/-- plain, and not deep -/
structure Pn (d : D) : Prop where
  nb : nb d = true
  dp : dep d ≤ 64
theorem pyD_pn {d : D} (h : Pn d) : pyD d = some (py d) := pyD_nb h.nb h.dp
open Classical in
theorem eqD_pn {d e : D} (h1 : Pn d) (h2 : Pn e) : eqD d e = some (.bl (decide (d = e))) := by
  unfold eqD
  rw [pyD_pn h1, pyD_pn h2]
  simp only [Option.some.injEq, D.bl.injEq]
  by_cases h : d = e
  · rw [decide_eq_true h]; exact (eqv_nb d e h1.nb h2.nb).mpr h
  · rw [decide_eq_false h, ← Bool.not_eq_true]
    exact fun z => h ((eqv_nb d e h1.nb h2.nb).mp z)
open Classical in
theorem neD_pn {d e : D} (h1 : Pn d) (h2 : Pn e) : neD d e = some (.bl (!decide (d = e))) := by
  have := eqD_pn h1 h2
  unfold eqD at this
  unfold neD
  rw [pyD_pn h1, pyD_pn h2] at this ⊢
  simp only [Option.some.injEq, D.bl.injEq] at this ⊢
  rw [this]
theorem mem_pys {e : D} (h : nb e = true) : ∀ ds : List D, nbs ds = true → ((pys ds).any (fun z => PyData.eqv z (py e)) = true ↔ e ∈ ds)
  | [], _ => by simp [pys]
  | d :: ds, h1 => by
    obtain ⟨a1, a2⟩ := Bool.and_eq_true_iff.mp (show (nb d && nbs ds) = true from h1)
    simp only [pys, List.any_cons, Bool.or_eq_true, List.mem_cons, mem_pys h ds a2, eqv_nb d e a1 h]
    constructor
    · rintro (z | z)
      · exact .inl z.symm
      · exact .inr z
    · rintro (z | z)
      · exact .inl z.symm
      · exact .inr z
theorem seq_nb {xs : List D} {d : D} (hd : d = .lst xs ∨ d = .tup xs) (h : Pn d) : nbs xs = true ∧ (pyD d).bind seqP = some (pys xs) := by
  rw [pyD_pn h]
  have := h.nb
  rcases hd with rfl | rfl
  · exact ⟨by simpa [SS.nb] using this, rfl⟩
  · exact ⟨by simpa [SS.nb] using this, rfl⟩
open Classical in
theorem inD_pn {e d : D} {xs : List D} (hd : d = .lst xs ∨ d = .tup xs) (h : Pn d) (he : Pn e) : inD e d = some (.bl (decide (e ∈ xs))) := by
  obtain ⟨h1, h2⟩ := seq_nb hd h
  unfold inD inB inSeq
  rw [pyD_pn he, h2]
  simp only [alt, Option.map_some, Option.some.injEq, D.bl.injEq]
  by_cases q : e ∈ xs
  · rw [decide_eq_true q]; exact (mem_pys he.nb xs h1).mpr q
  · rw [decide_eq_false q, ← Bool.not_eq_true]
    exact fun z => q ((mem_pys he.nb xs h1).mp z)
open Classical in
theorem notInD_pn {e d : D} {xs : List D} (hd : d = .lst xs ∨ d = .tup xs) (h : Pn d) (he : Pn e) : notInD e d = some (.bl (!decide (e ∈ xs))) := by
  have := inD_pn hd h he
  unfold inD at this
  unfold notInD
  cases hq : inB e d with
  | none => rw [hq] at this; cases this
  | some b => rw [hq] at this; simp only [Option.map_some, Option.some.injEq, D.bl.injEq] at this ⊢; rw [this]
theorem pn_int (i : Int) : Pn (.int i) := ⟨rfl, by simp [dep]⟩
theorem nbs_iff : ∀ ds : List D, nbs ds = true ↔ ∀ d ∈ ds, nb d = true
  | [] => by simp [nbs]
  | d :: ds => by simp [nbs, nbs_iff ds]
theorem deps_le {n : Nat} : ∀ ds : List D, deps ds ≤ n ↔ ∀ d ∈ ds, dep d ≤ n
  | [] => by simp [deps]
  | d :: ds => by simp only [deps, List.mem_cons, forall_eq_or_imp, ← deps_le ds]; omega
/-- plain, of depth at most n -/
def Pk (n : Nat) (d : D) : Prop := nb d = true ∧ dep d ≤ n
theorem Pk.pn {n : Nat} {d : D} (h : Pk n d) (hn : n ≤ 64) : Pn d := ⟨h.1, Nat.le_trans h.2 hn⟩
theorem Pk.mono {n m : Nat} {d : D} (h : Pk n d) (hn : n ≤ m) : Pk m d := ⟨h.1, Nat.le_trans h.2 hn⟩
theorem pk_int (n : Nat) (i : Int) : Pk n (.int i) := ⟨rfl, by simp [dep]⟩
theorem pk_tup {n : Nat} {xs : List D} (h : ∀ d ∈ xs, Pk n d) : Pk (n + 1) (.tup xs) :=
  ⟨by simp only [nb]; exact (nbs_iff xs).mpr fun d m => (h d m).1, by simp only [dep]; exact Nat.succ_le_succ ((deps_le xs).mpr fun d m => (h d m).2)⟩
theorem pk_lst {n : Nat} {xs : List D} (h : ∀ d ∈ xs, Pk n d) : Pk (n + 1) (.lst xs) :=
  ⟨by simp only [nb]; exact (nbs_iff xs).mpr fun d m => (h d m).1, by simp only [dep]; exact Nat.succ_le_succ ((deps_le xs).mpr fun d m => (h d m).2)⟩
mutual
theorem nb_lt (L : Nat) : ∀ d : D, nb d = true → d.lt L = true
  | .non, _ => rfl
  | .int _, _ => rfl
  | .str _, _ => rfl
  | .lst xs, h => by simp only [nb] at h; simp only [D.lt, nbs_lt L xs h]
  | .tup xs, h => by simp only [nb] at h; simp only [D.lt, nbs_lt L xs h]
  | .bl _, h => by simp [nb] at h
  | .dct _, h => by simp [nb] at h
  | .fn _ _, h => by simp [nb] at h
  | .obj _ _ _, h => by simp [nb] at h
  | .ref _, h => by simp [nb] at h
theorem nbs_lt (L : Nat) : ∀ ds : List D, nbs ds = true → D.ltAll L ds = true
  | [], _ => rfl
  | d :: ds, h => by
    obtain ⟨h1, h2⟩ := Bool.and_eq_true_iff.mp (show (nb d && nbs ds) = true from h)
    simp only [D.ltAll, nb_lt L d h1, nbs_lt L ds h2, Bool.and_self]
end
end SS
end
section
set_option Elab.async false
set_option linter.all false
set_option maxRecDepth 100000
set_option autoImplicit false
set_option maxHeartbeats 2000000
namespace SS
open PySem PySem.Spec PyProof.Rows L2 FL
/-! ## comprehensions by their turns -/
theorem bnd_assoc {α β γ : Type} (m : M α) (k : α → M β) (k' : β → M γ) : bnd (bnd m k) k' = bnd m (fun a => bnd (k a) k') := by
  funext S
  simp only [bnd]
  cases m S <;> rfl
theorem compD_cons (b : FGx) (t : FTx) (e : FEx) (r0 : FL.Env) (d : D) (ds acc : List D) (S : Sto) :
    compD b t e r0 (d :: ds) acc S = bnd (cStep b t e r0 d) (fun o => match o with
      | some y => if acc.length < 1000000 then compD b t e r0 ds (acc ++ [y]) else fun _ => .no
      | none => compD b t e r0 ds acc) S := by
  unfold cStep
  rw [bnd_assoc]
  refine congrFun (congrArg (bnd (noEx (b d r0))) (funext fun r1 => ?_)) S
  rw [bnd_assoc]
  refine congrArg (bnd (noEx (t r1))) (funext fun k => ?_)
  cases k with
  | false => rfl
  | true =>
    rw [if_pos rfl, if_pos rfl, bnd_assoc]
    rfl
theorem compD_pure {α : Type} (f : α → D) (g : α → Option D) {b : FGx} {t : FTx} {e : FEx} {r0 : FL.Env} {S : Sto} : ∀ (xs : List α) (acc : List D), (∀ x ∈ xs, cStep b t e r0 (f x) S = .ok (g x) S) → acc.length + xs.length ≤ 1000000 →
    compD b t e r0 (xs.map f) acc S = .ok (acc ++ xs.filterMap g) S
  | [], acc, _, _ => by simp [compD, FL.ret]
  | x :: xs, acc, h, hl => by
    rw [List.map_cons, compD_cons]
    simp only [bnd, h x List.mem_cons_self]
    rw [List.length_cons] at hl
    cases hg : g x with
    | none =>
      simp only
      rw [compD_pure f g xs acc (fun y hy => h y (List.mem_cons_of_mem _ hy)) (by omega), List.filterMap_cons_none hg]
    | some y =>
      simp only
      rw [if_pos (by omega), compD_pure f g xs (acc ++ [y]) (fun y hy => h y (List.mem_cons_of_mem _ hy)) (by simp; omega), List.filterMap_cons_some hg]
      simp
theorem compD_map {α : Type} (f g : α → D) {b : FGx} {t : FTx} {e : FEx} {r0 : FL.Env} {S : Sto} (xs : List α) (h : ∀ x ∈ xs, cStep b t e r0 (f x) S = .ok (some (g x)) S) (hl : xs.length ≤ 1000000) :
    compD b t e r0 (xs.map f) [] S = .ok (xs.map g) S := by
  rw [compD_pure f (fun x => some (g x)) xs [] h (by simpa using hl), List.nil_append]
  simp
theorem compD_filter {α : Type} (f : α → D) (p : α → Bool) {b : FGx} {t : FTx} {e : FEx} {r0 : FL.Env} {S : Sto} (xs : List α) (h : ∀ x ∈ xs, cStep b t e r0 (f x) S = .ok (if p x = true then some (f x) else none) S) (hl : xs.length ≤ 1000000) :
    compD b t e r0 (xs.map f) [] S = .ok ((xs.filter p).map f) S := by
  rw [compD_pure f (fun x => if p x = true then some (f x) else none) xs [] h (by simpa using hl), List.nil_append]
  congr 1
  clear h hl
  induction xs with
  | nil => rfl
  | cons x xs ih =>
    cases hp : p x with
    | true => simp [hp, ih]
    | false => simp [hp, ih]
/-! ## loops by their turns -/
theorem loopD_cons (b : FGx) (body : FSx) (d : D) (ds : List D) (r : FL.Env) (S : Sto) : loopD b body (d :: ds) r S = bnd (lStep b body d r) (fun fl => match fl with
      | .nx r' => loopD b body ds r'
      | .ct r' => loopD b body ds r'
      | .bk r' => FL.ret (.nx r')
      | .rt v => FL.ret (.rt v)) S := by
  unfold lStep
  rw [bnd_assoc]
  rfl
/-! ## indices -/
theorem atI_nat {α : Type} {xs : List α} {i : Nat} {x : α} (h : xs[i]? = some x) : atI xs (i : Int) = some x := by
  have hi := (List.getElem?_eq_some_iff.mp h).1
  unfold atI ixN
  rw [if_pos (by omega), if_pos (by omega)]
  simpa using h
theorem atI_0 {α : Type} (x : α) (xs : List α) : atI (x :: xs) 0 = some x := atI_nat (i := 0) rfl
theorem atI_1 {α : Type} (x y : α) (xs : List α) : atI (x :: y :: xs) 1 = some y := atI_nat (i := 1) rfl
theorem atI_2 {α : Type} (x y z : α) (xs : List α) : atI (x :: y :: z :: xs) 2 = some z := atI_nat (i := 2) rfl
theorem atI_last {α : Type} {xs : List α} {x : α} (h : xs.getLast? = some x) : atI xs (-1) = some x := by
  have hne : xs ≠ [] := fun z => by rw [z] at h; cases h
  have hl : 0 < xs.length := List.length_pos_iff.mpr hne
  unfold atI ixN
  rw [if_neg (by omega), if_pos (by omega)]
  simp only [Option.bind_some]
  rw [List.getLast?_eq_getElem?] at h
  rw [← h]
  congr 1
  omega
theorem ixD_tup (xs : List D) (i : Int) : ixD (.tup xs) (.int i) = atI xs i := by
  simp only [ixD, alt, on2, D.lst?, D.tup?, D.int?]
  cases atI xs i <;> rfl
theorem ixD_lst (xs : List D) (i : Int) : ixD (.lst xs) (.int i) = atI xs i := by
  simp only [ixD, alt, on2, D.lst?, D.tup?, D.int?, D.str?, D.dct?]
  cases atI xs i <;> rfl
end SS
end
section
set_option Elab.async false
set_option linter.all false
set_option maxRecDepth 100000
set_option autoImplicit false
set_option maxHeartbeats 4000000
namespace SS
open PySem PySem.Spec PyProof.Rows L2 FL
/-! ## programs, states, events -/
inductive Deed where
  | rise (c : Str) (n : Int) | spare (c : Str) (n : Int) | keep (s : Str) | same (s : Str) | other (s : Str) | copy (s t : Str) | agree (s t : Str) | differ (s t : Str) | newer (s t : Str) | elder (s t : Str) | doo (x : Str)
def Deed.word : Deed → Str
  | .rise _ _ => "rise"
  | .spare _ _ => "spare"
  | .keep _ => "keep"
  | .same _ => "same"
  | .other _ => "other"
  | .copy _ _ => "copy"
  | .agree _ _ => "agree"
  | .differ _ _ => "differ"
  | .newer _ _ => "newer"
  | .elder _ _ => "elder"
  | .doo _ => "do"
def Deed.args : Deed → List D
  | .rise c n => [.str c, .int n]
  | .spare c n => [.str c, .int n]
  | .keep s => [.str s]
  | .same s => [.str s]
  | .other s => [.str s]
  | .copy s t => [.str s, .str t]
  | .agree s t => [.str s, .str t]
  | .differ s t => [.str s, .str t]
  | .newer s t => [.str s, .str t]
  | .elder s t => [.str s, .str t]
  | .doo x => [.str x]
def Deed.d (w : Deed) : D := .tup (.str w.word :: w.args)
structure Arw where
  p : Int
  w : Deed
  q : Int
def Arw.d (a : Arw) : D := .tup [.int a.p, a.w.d, .int a.q]
structure Pg where
  cs : List Str
  ss : List (Str × Str)
  ps : List (Str × List Arw)
def slotD (s : Str × Str) : D := .tup [.str s.1, .str s.2]
def partyD (q : Str × List Arw) : D := .tup [.str q.1, .tup (q.2.map Arw.d)]
def Pg.d (p : Pg) : D := .tup [.tup (p.cs.map D.str), .tup (p.ss.map slotD), .tup (p.ps.map partyD)]
abbrev Ev := Str × Nat
structure St where
  pl : List Int
  ct : List Int
  st : List Int
def intsD (xs : List Int) : D := .tup (xs.map D.int)
def St.d (s : St) : D := .tup [intsD s.pl, intsD s.ct, intsD s.st]
def Pg.pi (p : Pg) (n : Str) : Nat := (p.ps.map (·.1)).idxOf n
def Pg.si (p : Pg) (s : Str) : Nat := (p.ss.map (·.1)).idxOf s
def Pg.ci (p : Pg) (c : Str) : Nat := p.cs.idxOf c
def Pg.own (p : Pg) (s : Str) : Str := (p.ss[p.si s]?.map (·.2)).getD ""
def Pg.hasS (p : Pg) (s : Str) : Prop := s ∈ p.ss.map (·.1)
def okN (n : Str) : Prop := 1 ≤ n.length ∧ n.length ≤ 8 ∧ ∀ c ∈ n.cps.toList, 97 ≤ c ∧ c ≤ 122
/-- the two slots of a deed of two slots -/
def Deed.two : Deed → Option (Str × Str)
  | .copy s t => some (s, t)
  | .agree s t => some (s, t)
  | .differ s t => some (s, t)
  | .newer s t => some (s, t)
  | .elder s t => some (s, t)
  | _ => none
/-- what a deed may name -/
def Pg.okD (p : Pg) : Deed → Prop
  | .rise c n => c ∈ p.cs ∧ 0 ≤ n ∧ n ≤ 100
  | .spare c n => c ∈ p.cs ∧ 0 ≤ n ∧ n ≤ 100
  | .keep s => p.hasS s
  | .same s => p.hasS s
  | .other s => p.hasS s
  | .copy s t => p.hasS s ∧ p.hasS t
  | .agree s t => p.hasS s ∧ p.hasS t
  | .differ s t => p.hasS s ∧ p.hasS t
  | .newer s t => p.hasS s ∧ p.hasS t
  | .elder s t => p.hasS s ∧ p.hasS t
  | .doo x => okN x
structure Pg.Ok (p : Pg) : Prop where
  ndP : (p.ps.map (·.1)).Nodup
  ndS : (p.ss.map (·.1)).Nodup
  ndC : p.cs.Nodup
  own : ∀ s ∈ p.ss, s.2 ∈ p.cs
  deeds : ∀ q ∈ p.ps, ∀ a ∈ q.2, p.okD a.w ∧ 0 ≤ a.p ∧ a.p ≤ 100 ∧ 0 ≤ a.q ∧ a.q ≤ 100
  names : ∀ q ∈ p.ps, okN q.1
  namesS : ∀ q ∈ p.ss, okN q.1
  namesC : ∀ c ∈ p.cs, okN c
  lenP' : p.ps.length ≤ 3
  lenS' : p.ss.length ≤ 4
  lenC' : p.cs.length ≤ 2
  lenA' : ∀ q ∈ p.ps, q.2.length ≤ 10
  pairs : ∀ q ∈ p.ps, ∀ a ∈ q.2, ∀ s t, a.w.two = some (s, t) → p.own s = p.own t
structure St.Ok (p : Pg) (s : St) : Prop where
  pl : s.pl.length = p.ps.length
  ct : s.ct.length = p.cs.length
  st : s.st.length = p.ss.length
def stampOf (p : Pg) (s : St) (x : Str) : Int := s.st.getD (p.si x) 0
def countOf (p : Pg) (s : St) (x : Str) : Int := s.ct.getD (p.ci (p.own x)) 0
def after (p : Pg) (s : St) (e : Ev) (a : Arw) : St where
  pl := s.pl.set (p.pi e.1) a.q
  ct := match a.w with
    | .rise c n => s.ct.set (p.ci c) (s.ct.getD (p.ci c) 0 + n)
    | _ => s.ct
  st := match a.w with
    | .keep x => s.st.set (p.si x) (countOf p s x)
    | .copy x y => s.st.set (p.si x) (stampOf p s y)
    | _ => s.st
/-! ## places of names -/
end SS
end
section
set_option Elab.async false
set_option linter.all false
set_option maxRecDepth 100000
set_option autoImplicit false
set_option maxHeartbeats 4000000
namespace SS
open PySem PySem.Spec PyProof.Rows L2 FL
local macro_rules
  | `(tactic| simp_arith only [$xs,*]) => `(tactic| simp (config := { implicitDefEqProofs := false }) only [tn_ok, oR_some, nx_ok, ev_var, ev_c, ev_bin, ev_kBin1, ev_kBin2, ev_un, ev_kUn, ev_asB, ev_kB, ev_asT, ev_kT, ev_tAnd2, ev_kAndT, ev_kAndF, ev_tOr2, ev_kOrT, ev_kOrF, ev_not, ev_kNot, ev_eAnd2, ev_kAndE, ev_kAndET, ev_kAndEF, ev_eOr2, ev_kOrE, ev_kOrET, ev_kOrEF, ev_eNot1, ev_kNotE, ev_kNotE2, ev_if, ev_kIfT, ev_kIfF, ev_aNil, ev_aCons, ev_kCons, ev_kCons2, ev_aStar, ev_kStar, ev_kStar2, ev_kStar3, ev_eTup, ev_kTup, ev_kTup2, ev_eLst, ev_kLst, ev_kLst2, ev_eNewL, ev_kNewL, ev_kNewL2, ev_newD, ev_callP, ev_kCallP, ev_call, ev_kCall, ev_kCall2, ev_oNone, ev_oSome, ev_kO, ev_kO2, ev_sl, ev_kSl, ev_kSl2, ev_kSl3, ev_sl3, ev_kT1, ev_kT2, ev_kT3, ev_kT4, ev_listRg, ev_kLR, ev_kLR2, ev_forM, ev_forMr, ev_forMl, ev_forMt, ev_forR, ev_meth, ev_kM, ev_kM2, ev_kM3, ev_meth0, ev_kM0, ev_chain, ev_kCh, ev_kCh2, ev_kCh3T, ev_kCh3F, ev_kCh4, ev_kLs, ev_kComp, ev_comp, ev_kRef, ev_compM, ev_kComp2, ev_comp2, ev_iSeq, ev_kIt, ev_iRange, ev_kRg, ev_enT, ev_enL, ev_iEnum, items_lst, items_tup, items_str, ev_true, ev_ret, ev_kRet, ev_expr, ev_kEx, ev_asg, ev_kAsg, ev_kNx, ev_seq, ev_kSeqN, ev_kSeqR, ev_kSeqB, ev_kSeqC, ev_ifS, ev_kIfST, ev_kIfSF, ev_for, ev_kFor, ev_next, ev_retN, ev_break, ev_cont, ev_par, ev_kPar, ev_par3, ev_kPar3, ev_gName, ev_gTup, ev_gsNil, ev_gsCons, ev_kGs, ev_gSub, ev_kSub, ev_kSub2, ev_kSub3, ev_kSub4, ev_mut, ev_kMu, ev_kMu2, ev_kMu3, ev_kMu4, ev_catM, ev_kCat, ev_kCat2, ev_catR, vw_non, vw_bl, vw_int, vw_str, vw_lst, vw_tup, vw_dct, vw_ref, vwO_lst, vwO_dct, tru_bl, tru_int, tru_lst, tru_tup, tru_non, add_int, add_lst, add_tup, add_str, sub_int, neg_int, gt_int, ge_int, lt_int, le_int, len_lst, len_tup, len_dct, len_str, int_int, tuple_lst, tuple_tup, list_lst, list_tup, sl_lst, sl_tup, is_non, isnt_non, non_bl, non_int, non_str, non_lst, non_tup, non_non, int_int?, ref_ref?, alt_tup, alt_lst, isi_int_non, isi_int_bl, isi_int_int, isi_int_str, isi_int_lst, isi_int_tup, isi_bool_non, isi_bool_bl, isi_bool_int, isi_bool_str, isi_bool_lst, isi_bool_tup, isi_str_non, isi_str_bl, isi_str_int, isi_str_str, isi_str_lst, isi_str_tup, isi_tuple_non, isi_tuple_bl, isi_tuple_int, isi_tuple_str, isi_tuple_lst, isi_tuple_tup, isi_list_non, isi_list_bl, isi_list_int, isi_list_str, isi_list_lst, isi_list_tup, isi_dict_non, isi_dict_bl, isi_dict_int, isi_dict_str, isi_dict_lst, isi_dict_tup, tyIn_lst2, tyD_lst, tyIn_tup2, tyD_tup, tyIn_str, tyD_str, tyIn_dct, tyD_dct, ev_cStep, ev_kC, ev_kC2T, ev_kC2F, ev_kSome, ev_cStep2, ev_kD, ev_kD2T, ev_kD2F, ev_kD3, ev_lStep, ev_kL, List.getElem?_cons_zero, List.getElem?_cons_succ, Option.join_some, Option.bind_some, Option.map_some, wipeE, List.set_cons_zero, List.set_cons_succ, List.length_cons, List.length_nil, List.map_cons, List.map_nil, gAll, gDef, List.cons_append, List.nil_append, if_true, if_false, Bool.not_true, Bool.not_false, Nat.zero_add, Nat.reduceAdd, Nat.reduceLeDiff, and_true, and_self, true_and, reduceIte, Bool.false_eq_true, $xs,*])
/-! ## the program's functions -/
abbrev Fn := List D → M D
theorem range1 {n : Nat} (h : n ≤ 1000000) : rangeD1 [.int (n : Int)] = some ((List.range n).map fun i : Nat => D.int i) := by
  have : smallR (n : Int) = true := by unfold smallR; exact decide_eq_true (by omega)
  simp only [rangeD1, one, on1, D.int?, guard', this, if_true, Int.toNat_natCast, Int.zero_add]
theorem mul_zero {n : Nat} (h : n ≤ 1000) : mulD (.tup [.int 0]) (.int (n : Int)) = some (intsD (List.replicate n 0)) := by
  have c : decide (([D.int 0] : List D) ≠ [] ∧ ([D.int 0] : List D).length ≤ 1000 ∧ -1000 ≤ (n : Int) ∧ (n : Int) ≤ 1000) = true := decide_eq_true ⟨by simp, by simp, by omega, by omega⟩
  simp only [mulD, alt, ii, on2, D.int?, D.tup?, guard', c, if_true, Int.toNat_natCast, intsD]
  congr 2
  induction n with
  | zero => rfl
  | succ n ih => rw [List.replicate_succ, List.flatten_cons, ih (by omega) (decide_eq_true ⟨by simp, by simp, by omega, by omega⟩), List.replicate_succ]; rfl
end SS
end
section
set_option Elab.async false
set_option linter.all false
set_option maxRecDepth 100000
set_option autoImplicit false
set_option maxHeartbeats 4000000
namespace SS
open PySem PySem.Spec PyProof.Rows L2 FL
local macro_rules
  | `(tactic| simp_arith only [$xs,*]) => `(tactic| simp (config := { implicitDefEqProofs := false }) only [tn_ok, oR_some, nx_ok, ev_var, ev_c, ev_bin, ev_kBin1, ev_kBin2, ev_un, ev_kUn, ev_asB, ev_kB, ev_asT, ev_kT, ev_tAnd2, ev_kAndT, ev_kAndF, ev_tOr2, ev_kOrT, ev_kOrF, ev_not, ev_kNot, ev_eAnd2, ev_kAndE, ev_kAndET, ev_kAndEF, ev_eOr2, ev_kOrE, ev_kOrET, ev_kOrEF, ev_eNot1, ev_kNotE, ev_kNotE2, ev_if, ev_kIfT, ev_kIfF, ev_aNil, ev_aCons, ev_kCons, ev_kCons2, ev_aStar, ev_kStar, ev_kStar2, ev_kStar3, ev_eTup, ev_kTup, ev_kTup2, ev_eLst, ev_kLst, ev_kLst2, ev_eNewL, ev_kNewL, ev_kNewL2, ev_newD, ev_callP, ev_kCallP, ev_call, ev_kCall, ev_kCall2, ev_oNone, ev_oSome, ev_kO, ev_kO2, ev_sl, ev_kSl, ev_kSl2, ev_kSl3, ev_sl3, ev_kT1, ev_kT2, ev_kT3, ev_kT4, ev_listRg, ev_kLR, ev_kLR2, ev_forM, ev_forMr, ev_forMl, ev_forMt, ev_forR, ev_meth, ev_kM, ev_kM2, ev_kM3, ev_meth0, ev_kM0, ev_chain, ev_kCh, ev_kCh2, ev_kCh3T, ev_kCh3F, ev_kCh4, ev_kLs, ev_kComp, ev_comp, ev_kRef, ev_compM, ev_kComp2, ev_comp2, ev_iSeq, ev_kIt, ev_iRange, ev_kRg, ev_enT, ev_enL, ev_iEnum, items_lst, items_tup, items_str, ev_true, ev_ret, ev_kRet, ev_expr, ev_kEx, ev_asg, ev_kAsg, ev_kNx, ev_seq, ev_kSeqN, ev_kSeqR, ev_kSeqB, ev_kSeqC, ev_ifS, ev_kIfST, ev_kIfSF, ev_for, ev_kFor, ev_next, ev_retN, ev_break, ev_cont, ev_par, ev_kPar, ev_par3, ev_kPar3, ev_gName, ev_gTup, ev_gsNil, ev_gsCons, ev_kGs, ev_gSub, ev_kSub, ev_kSub2, ev_kSub3, ev_kSub4, ev_mut, ev_kMu, ev_kMu2, ev_kMu3, ev_kMu4, ev_catM, ev_kCat, ev_kCat2, ev_catR, vw_non, vw_bl, vw_int, vw_str, vw_lst, vw_tup, vw_dct, vw_ref, vwO_lst, vwO_dct, tru_bl, tru_int, tru_lst, tru_tup, tru_non, add_int, add_lst, add_tup, add_str, sub_int, neg_int, gt_int, ge_int, lt_int, le_int, len_lst, len_tup, len_dct, len_str, int_int, tuple_lst, tuple_tup, list_lst, list_tup, sl_lst, sl_tup, is_non, isnt_non, non_bl, non_int, non_str, non_lst, non_tup, non_non, int_int?, ref_ref?, alt_tup, alt_lst, isi_int_non, isi_int_bl, isi_int_int, isi_int_str, isi_int_lst, isi_int_tup, isi_bool_non, isi_bool_bl, isi_bool_int, isi_bool_str, isi_bool_lst, isi_bool_tup, isi_str_non, isi_str_bl, isi_str_int, isi_str_str, isi_str_lst, isi_str_tup, isi_tuple_non, isi_tuple_bl, isi_tuple_int, isi_tuple_str, isi_tuple_lst, isi_tuple_tup, isi_list_non, isi_list_bl, isi_list_int, isi_list_str, isi_list_lst, isi_list_tup, isi_dict_non, isi_dict_bl, isi_dict_int, isi_dict_str, isi_dict_lst, isi_dict_tup, tyIn_lst2, tyD_lst, tyIn_tup2, tyD_tup, tyIn_str, tyD_str, tyIn_dct, tyD_dct, ev_cStep, ev_kC, ev_kC2T, ev_kC2F, ev_kSome, ev_cStep2, ev_kD, ev_kD2T, ev_kD2F, ev_kD3, ev_lStep, ev_kL, List.getElem?_cons_zero, List.getElem?_cons_succ, Option.join_some, Option.bind_some, Option.map_some, wipeE, List.set_cons_zero, List.set_cons_succ, List.length_cons, List.length_nil, List.map_cons, List.map_nil, gAll, gDef, List.cons_append, List.nil_append, if_true, if_false, Bool.not_true, Bool.not_false, Nat.zero_add, Nat.reduceAdd, Nat.reduceLeDiff, and_true, and_self, true_and, reduceIte, Bool.false_eq_true, $xs,*])
/-! ## the gap of a look -/
/-! ## can it come -/
end SS
end
section
set_option Elab.async false
set_option linter.all false
set_option maxRecDepth 100000
set_option autoImplicit false
set_option maxHeartbeats 4000000
namespace SS
open PySem PySem.Spec PyProof.Rows L2 FL
local macro_rules
  | `(tactic| simp_arith only [$xs,*]) => `(tactic| simp (config := { implicitDefEqProofs := false }) only [tn_ok, oR_some, nx_ok, ev_var, ev_c, ev_bin, ev_kBin1, ev_kBin2, ev_un, ev_kUn, ev_asB, ev_kB, ev_asT, ev_kT, ev_tAnd2, ev_kAndT, ev_kAndF, ev_tOr2, ev_kOrT, ev_kOrF, ev_not, ev_kNot, ev_eAnd2, ev_kAndE, ev_kAndET, ev_kAndEF, ev_eOr2, ev_kOrE, ev_kOrET, ev_kOrEF, ev_eNot1, ev_kNotE, ev_kNotE2, ev_if, ev_kIfT, ev_kIfF, ev_aNil, ev_aCons, ev_kCons, ev_kCons2, ev_aStar, ev_kStar, ev_kStar2, ev_kStar3, ev_eTup, ev_kTup, ev_kTup2, ev_eLst, ev_kLst, ev_kLst2, ev_eNewL, ev_kNewL, ev_kNewL2, ev_newD, ev_callP, ev_kCallP, ev_call, ev_kCall, ev_kCall2, ev_oNone, ev_oSome, ev_kO, ev_kO2, ev_sl, ev_kSl, ev_kSl2, ev_kSl3, ev_sl3, ev_kT1, ev_kT2, ev_kT3, ev_kT4, ev_listRg, ev_kLR, ev_kLR2, ev_forM, ev_forMr, ev_forMl, ev_forMt, ev_forR, ev_meth, ev_kM, ev_kM2, ev_kM3, ev_meth0, ev_kM0, ev_chain, ev_kCh, ev_kCh2, ev_kCh3T, ev_kCh3F, ev_kCh4, ev_kLs, ev_kComp, ev_comp, ev_kRef, ev_compM, ev_kComp2, ev_comp2, ev_iSeq, ev_kIt, ev_iRange, ev_kRg, ev_enT, ev_enL, ev_iEnum, items_lst, items_tup, items_str, ev_true, ev_ret, ev_kRet, ev_expr, ev_kEx, ev_asg, ev_kAsg, ev_kNx, ev_seq, ev_kSeqN, ev_kSeqR, ev_kSeqB, ev_kSeqC, ev_ifS, ev_kIfST, ev_kIfSF, ev_for, ev_kFor, ev_next, ev_retN, ev_break, ev_cont, ev_par, ev_kPar, ev_par3, ev_kPar3, ev_gName, ev_gTup, ev_gsNil, ev_gsCons, ev_kGs, ev_gSub, ev_kSub, ev_kSub2, ev_kSub3, ev_kSub4, ev_mut, ev_kMu, ev_kMu2, ev_kMu3, ev_kMu4, ev_catM, ev_kCat, ev_kCat2, ev_catR, vw_non, vw_bl, vw_int, vw_str, vw_lst, vw_tup, vw_dct, vw_ref, vwO_lst, vwO_dct, tru_bl, tru_int, tru_lst, tru_tup, tru_non, add_int, add_lst, add_tup, add_str, sub_int, neg_int, gt_int, ge_int, lt_int, le_int, len_lst, len_tup, len_dct, len_str, int_int, tuple_lst, tuple_tup, list_lst, list_tup, sl_lst, sl_tup, is_non, isnt_non, non_bl, non_int, non_str, non_lst, non_tup, non_non, int_int?, ref_ref?, alt_tup, alt_lst, isi_int_non, isi_int_bl, isi_int_int, isi_int_str, isi_int_lst, isi_int_tup, isi_bool_non, isi_bool_bl, isi_bool_int, isi_bool_str, isi_bool_lst, isi_bool_tup, isi_str_non, isi_str_bl, isi_str_int, isi_str_str, isi_str_lst, isi_str_tup, isi_tuple_non, isi_tuple_bl, isi_tuple_int, isi_tuple_str, isi_tuple_lst, isi_tuple_tup, isi_list_non, isi_list_bl, isi_list_int, isi_list_str, isi_list_lst, isi_list_tup, isi_dict_non, isi_dict_bl, isi_dict_int, isi_dict_str, isi_dict_lst, isi_dict_tup, tyIn_lst2, tyD_lst, tyIn_tup2, tyD_tup, tyIn_str, tyD_str, tyIn_dct, tyD_dct, ev_cStep, ev_kC, ev_kC2T, ev_kC2F, ev_kSome, ev_cStep2, ev_kD, ev_kD2T, ev_kD2F, ev_kD3, ev_lStep, ev_kL, List.getElem?_cons_zero, List.getElem?_cons_succ, Option.join_some, Option.bind_some, Option.map_some, wipeE, List.set_cons_zero, List.set_cons_succ, List.length_cons, List.length_nil, List.map_cons, List.map_nil, gAll, gDef, List.cons_append, List.nil_append, if_true, if_false, Bool.not_true, Bool.not_false, Nat.zero_add, Nat.reduceAdd, Nat.reduceLeDiff, and_true, and_self, true_and, reduceIte, Bool.false_eq_true, $xs,*])
/-! ## the state behind an event -/
/-! ## events that can come -/
end SS
end
section
set_option Elab.async false
set_option linter.all false
set_option maxRecDepth 100000
set_option autoImplicit false
set_option maxHeartbeats 4000000
namespace SS
open PySem PySem.Spec PyProof.Rows L2 FL
local macro_rules
  | `(tactic| simp_arith only [$xs,*]) => `(tactic| simp (config := { implicitDefEqProofs := false }) only [tn_ok, oR_some, nx_ok, ev_var, ev_c, ev_bin, ev_kBin1, ev_kBin2, ev_un, ev_kUn, ev_asB, ev_kB, ev_asT, ev_kT, ev_tAnd2, ev_kAndT, ev_kAndF, ev_tOr2, ev_kOrT, ev_kOrF, ev_not, ev_kNot, ev_eAnd2, ev_kAndE, ev_kAndET, ev_kAndEF, ev_eOr2, ev_kOrE, ev_kOrET, ev_kOrEF, ev_eNot1, ev_kNotE, ev_kNotE2, ev_if, ev_kIfT, ev_kIfF, ev_aNil, ev_aCons, ev_kCons, ev_kCons2, ev_aStar, ev_kStar, ev_kStar2, ev_kStar3, ev_eTup, ev_kTup, ev_kTup2, ev_eLst, ev_kLst, ev_kLst2, ev_eNewL, ev_kNewL, ev_kNewL2, ev_newD, ev_callP, ev_kCallP, ev_call, ev_kCall, ev_kCall2, ev_oNone, ev_oSome, ev_kO, ev_kO2, ev_sl, ev_kSl, ev_kSl2, ev_kSl3, ev_sl3, ev_kT1, ev_kT2, ev_kT3, ev_kT4, ev_listRg, ev_kLR, ev_kLR2, ev_forM, ev_forMr, ev_forMl, ev_forMt, ev_forR, ev_meth, ev_kM, ev_kM2, ev_kM3, ev_meth0, ev_kM0, ev_chain, ev_kCh, ev_kCh2, ev_kCh3T, ev_kCh3F, ev_kCh4, ev_kLs, ev_kComp, ev_comp, ev_kRef, ev_compM, ev_kComp2, ev_comp2, ev_iSeq, ev_kIt, ev_iRange, ev_kRg, ev_enT, ev_enL, ev_iEnum, items_lst, items_tup, items_str, ev_true, ev_ret, ev_kRet, ev_expr, ev_kEx, ev_asg, ev_kAsg, ev_kNx, ev_seq, ev_kSeqN, ev_kSeqR, ev_kSeqB, ev_kSeqC, ev_ifS, ev_kIfST, ev_kIfSF, ev_for, ev_kFor, ev_next, ev_retN, ev_break, ev_cont, ev_par, ev_kPar, ev_par3, ev_kPar3, ev_gName, ev_gTup, ev_gsNil, ev_gsCons, ev_kGs, ev_gSub, ev_kSub, ev_kSub2, ev_kSub3, ev_kSub4, ev_mut, ev_kMu, ev_kMu2, ev_kMu3, ev_kMu4, ev_catM, ev_kCat, ev_kCat2, ev_catR, vw_non, vw_bl, vw_int, vw_str, vw_lst, vw_tup, vw_dct, vw_ref, vwO_lst, vwO_dct, tru_bl, tru_int, tru_lst, tru_tup, tru_non, add_int, add_lst, add_tup, add_str, sub_int, neg_int, gt_int, ge_int, lt_int, le_int, len_lst, len_tup, len_dct, len_str, int_int, tuple_lst, tuple_tup, list_lst, list_tup, sl_lst, sl_tup, is_non, isnt_non, non_bl, non_int, non_str, non_lst, non_tup, non_non, int_int?, ref_ref?, alt_tup, alt_lst, isi_int_non, isi_int_bl, isi_int_int, isi_int_str, isi_int_lst, isi_int_tup, isi_bool_non, isi_bool_bl, isi_bool_int, isi_bool_str, isi_bool_lst, isi_bool_tup, isi_str_non, isi_str_bl, isi_str_int, isi_str_str, isi_str_lst, isi_str_tup, isi_tuple_non, isi_tuple_bl, isi_tuple_int, isi_tuple_str, isi_tuple_lst, isi_tuple_tup, isi_list_non, isi_list_bl, isi_list_int, isi_list_str, isi_list_lst, isi_list_tup, isi_dict_non, isi_dict_bl, isi_dict_int, isi_dict_str, isi_dict_lst, isi_dict_tup, tyIn_lst2, tyD_lst, tyIn_tup2, tyD_tup, tyIn_str, tyD_str, tyIn_dct, tyD_dct, ev_cStep, ev_kC, ev_kC2T, ev_kC2F, ev_kSome, ev_cStep2, ev_kD, ev_kD2T, ev_kD2F, ev_kD3, ev_lStep, ev_kL, List.getElem?_cons_zero, List.getElem?_cons_succ, Option.join_some, Option.bind_some, Option.map_some, wipeE, List.set_cons_zero, List.set_cons_succ, List.length_cons, List.length_nil, List.map_cons, List.map_nil, gAll, gDef, List.cons_append, List.nil_append, if_true, if_false, Bool.not_true, Bool.not_false, Nat.zero_add, Nat.reduceAdd, Nat.reduceLeDiff, and_true, and_self, true_and, reduceIte, Bool.false_eq_true, $xs,*])
/-! ## kinds -/
theorem allQ_bl : ∀ bs : List Bool, allQ D.bl? (bs.map D.bl) = some bs
  | [] => rfl
  | b :: bs => by
    rw [List.map_cons]
    unfold allQ
    rw [allQ_bl bs]
    rfl
theorem all_bl (bs : List Bool) : allD [.lst (bs.map D.bl)] = some (.bl (bs.all id)) := by
  simp only [allD, one, on1, D.lst?, allQ_bl, Option.map_some]
theorem any_bl (bs : List Bool) : anyD [.lst (bs.map D.bl)] = some (.bl (bs.any id)) := by
  simp only [anyD, one, on1, D.lst?, allQ_bl, Option.map_some]
/-! ## events of a program -/
end SS
end
section
set_option Elab.async false
set_option linter.all false
set_option maxRecDepth 100000
set_option autoImplicit false
set_option maxHeartbeats 4000000
namespace SS
open PySem PySem.Spec PyProof.Rows L2 FL
local macro_rules
  | `(tactic| simp_arith only [$xs,*]) => `(tactic| simp (config := { implicitDefEqProofs := false }) only [tn_ok, oR_some, nx_ok, ev_var, ev_c, ev_bin, ev_kBin1, ev_kBin2, ev_un, ev_kUn, ev_asB, ev_kB, ev_asT, ev_kT, ev_tAnd2, ev_kAndT, ev_kAndF, ev_tOr2, ev_kOrT, ev_kOrF, ev_not, ev_kNot, ev_eAnd2, ev_kAndE, ev_kAndET, ev_kAndEF, ev_eOr2, ev_kOrE, ev_kOrET, ev_kOrEF, ev_eNot1, ev_kNotE, ev_kNotE2, ev_if, ev_kIfT, ev_kIfF, ev_aNil, ev_aCons, ev_kCons, ev_kCons2, ev_aStar, ev_kStar, ev_kStar2, ev_kStar3, ev_eTup, ev_kTup, ev_kTup2, ev_eLst, ev_kLst, ev_kLst2, ev_eNewL, ev_kNewL, ev_kNewL2, ev_newD, ev_callP, ev_kCallP, ev_call, ev_kCall, ev_kCall2, ev_oNone, ev_oSome, ev_kO, ev_kO2, ev_sl, ev_kSl, ev_kSl2, ev_kSl3, ev_sl3, ev_kT1, ev_kT2, ev_kT3, ev_kT4, ev_listRg, ev_kLR, ev_kLR2, ev_forM, ev_forMr, ev_forMl, ev_forMt, ev_forR, ev_meth, ev_kM, ev_kM2, ev_kM3, ev_meth0, ev_kM0, ev_chain, ev_kCh, ev_kCh2, ev_kCh3T, ev_kCh3F, ev_kCh4, ev_kLs, ev_kComp, ev_comp, ev_kRef, ev_compM, ev_kComp2, ev_comp2, ev_iSeq, ev_kIt, ev_iRange, ev_kRg, ev_enT, ev_enL, ev_iEnum, items_lst, items_tup, items_str, ev_true, ev_ret, ev_kRet, ev_expr, ev_kEx, ev_asg, ev_kAsg, ev_kNx, ev_seq, ev_kSeqN, ev_kSeqR, ev_kSeqB, ev_kSeqC, ev_ifS, ev_kIfST, ev_kIfSF, ev_for, ev_kFor, ev_next, ev_retN, ev_break, ev_cont, ev_par, ev_kPar, ev_par3, ev_kPar3, ev_gName, ev_gTup, ev_gsNil, ev_gsCons, ev_kGs, ev_gSub, ev_kSub, ev_kSub2, ev_kSub3, ev_kSub4, ev_mut, ev_kMu, ev_kMu2, ev_kMu3, ev_kMu4, ev_catM, ev_kCat, ev_kCat2, ev_catR, vw_non, vw_bl, vw_int, vw_str, vw_lst, vw_tup, vw_dct, vw_ref, vwO_lst, vwO_dct, tru_bl, tru_int, tru_lst, tru_tup, tru_non, add_int, add_lst, add_tup, add_str, sub_int, neg_int, gt_int, ge_int, lt_int, le_int, len_lst, len_tup, len_dct, len_str, int_int, tuple_lst, tuple_tup, list_lst, list_tup, sl_lst, sl_tup, is_non, isnt_non, non_bl, non_int, non_str, non_lst, non_tup, non_non, int_int?, ref_ref?, alt_tup, alt_lst, isi_int_non, isi_int_bl, isi_int_int, isi_int_str, isi_int_lst, isi_int_tup, isi_bool_non, isi_bool_bl, isi_bool_int, isi_bool_str, isi_bool_lst, isi_bool_tup, isi_str_non, isi_str_bl, isi_str_int, isi_str_str, isi_str_lst, isi_str_tup, isi_tuple_non, isi_tuple_bl, isi_tuple_int, isi_tuple_str, isi_tuple_lst, isi_tuple_tup, isi_list_non, isi_list_bl, isi_list_int, isi_list_str, isi_list_lst, isi_list_tup, isi_dict_non, isi_dict_bl, isi_dict_int, isi_dict_str, isi_dict_lst, isi_dict_tup, tyIn_lst2, tyD_lst, tyIn_tup2, tyD_tup, tyIn_str, tyD_str, tyIn_dct, tyD_dct, ev_cStep, ev_kC, ev_kC2T, ev_kC2F, ev_kSome, ev_cStep2, ev_kD, ev_kD2T, ev_kD2F, ev_kD3, ev_lStep, ev_kL, List.getElem?_cons_zero, List.getElem?_cons_succ, Option.join_some, Option.bind_some, Option.map_some, wipeE, List.set_cons_zero, List.set_cons_succ, List.length_cons, List.length_nil, List.map_cons, List.map_nil, gAll, gDef, List.cons_append, List.nil_append, if_true, if_false, Bool.not_true, Bool.not_false, Nat.zero_add, Nat.reduceAdd, Nat.reduceLeDiff, and_true, and_self, true_and, reduceIte, Bool.false_eq_true, $xs,*])
theorem app_get (S : Sto) (o : Ob) : (S ++ [o])[S.length]? = some o := by simp
theorem app_set (S : Sto) (o o' : Ob) : (S ++ [o]).set S.length o' = S ++ [o'] := by simp
theorem ob_list (xs : List D) : obIn ["list"] (some (.lst xs)) = some "list" := by unfold obIn tyOb; simp
theorem mut_app {S : Sto} {n : Nat} {xs : List D} {d : D} (h : S[n]? = some (.lst xs)) (hl : xs.length < 1000000) : mutAt "list" appendD n [d] S = .ok .non (S.set n (.lst (xs ++ [d]))) := by
  unfold mutAt
  rw [h]
  simp only [tyOb, if_true, appendD, hl]
def SpReq (F : Fn) : Prop := ∀ (n : Str) (i : Int) (S : Sto), F [.bl true, .str n, .int i] S = .ok .non S
theorem require_given_ok : SpReq (dBody false 3 B_require_given) := by
  intro n i S
  show doneR false S (B_require_given [some (.bl true), some (.str n), some (.int i)] S) = _
  simp_arith only [B_require_given, done_nx S S _ rfl]
end SS
end
section
set_option Elab.async false
set_option linter.all false
set_option maxRecDepth 100000
set_option autoImplicit false
set_option maxHeartbeats 4000000
namespace SS
open PySem PySem.Spec PyProof.Rows L2 FL
local macro_rules
  | `(tactic| simp_arith only [$xs,*]) => `(tactic| simp (config := { implicitDefEqProofs := false }) only [tn_ok, oR_some, nx_ok, ev_var, ev_c, ev_bin, ev_kBin1, ev_kBin2, ev_un, ev_kUn, ev_asB, ev_kB, ev_asT, ev_kT, ev_tAnd2, ev_kAndT, ev_kAndF, ev_tOr2, ev_kOrT, ev_kOrF, ev_not, ev_kNot, ev_eAnd2, ev_kAndE, ev_kAndET, ev_kAndEF, ev_eOr2, ev_kOrE, ev_kOrET, ev_kOrEF, ev_eNot1, ev_kNotE, ev_kNotE2, ev_if, ev_kIfT, ev_kIfF, ev_aNil, ev_aCons, ev_kCons, ev_kCons2, ev_aStar, ev_kStar, ev_kStar2, ev_kStar3, ev_eTup, ev_kTup, ev_kTup2, ev_eLst, ev_kLst, ev_kLst2, ev_eNewL, ev_kNewL, ev_kNewL2, ev_newD, ev_callP, ev_kCallP, ev_call, ev_kCall, ev_kCall2, ev_oNone, ev_oSome, ev_kO, ev_kO2, ev_sl, ev_kSl, ev_kSl2, ev_kSl3, ev_sl3, ev_kT1, ev_kT2, ev_kT3, ev_kT4, ev_listRg, ev_kLR, ev_kLR2, ev_forM, ev_forMr, ev_forMl, ev_forMt, ev_forR, ev_meth, ev_kM, ev_kM2, ev_kM3, ev_meth0, ev_kM0, ev_chain, ev_kCh, ev_kCh2, ev_kCh3T, ev_kCh3F, ev_kCh4, ev_kLs, ev_kComp, ev_comp, ev_kRef, ev_compM, ev_kComp2, ev_comp2, ev_iSeq, ev_kIt, ev_iRange, ev_kRg, ev_enT, ev_enL, ev_iEnum, items_lst, items_tup, items_str, ev_true, ev_ret, ev_kRet, ev_expr, ev_kEx, ev_asg, ev_kAsg, ev_kNx, ev_seq, ev_kSeqN, ev_kSeqR, ev_kSeqB, ev_kSeqC, ev_ifS, ev_kIfST, ev_kIfSF, ev_for, ev_kFor, ev_next, ev_retN, ev_break, ev_cont, ev_par, ev_kPar, ev_par3, ev_kPar3, ev_gName, ev_gTup, ev_gsNil, ev_gsCons, ev_kGs, ev_gSub, ev_kSub, ev_kSub2, ev_kSub3, ev_kSub4, ev_mut, ev_kMu, ev_kMu2, ev_kMu3, ev_kMu4, ev_catM, ev_kCat, ev_kCat2, ev_catR, vw_non, vw_bl, vw_int, vw_str, vw_lst, vw_tup, vw_dct, vw_ref, vwO_lst, vwO_dct, tru_bl, tru_int, tru_lst, tru_tup, tru_non, add_int, add_lst, add_tup, add_str, sub_int, neg_int, gt_int, ge_int, lt_int, le_int, len_lst, len_tup, len_dct, len_str, int_int, tuple_lst, tuple_tup, list_lst, list_tup, sl_lst, sl_tup, is_non, isnt_non, non_bl, non_int, non_str, non_lst, non_tup, non_non, int_int?, ref_ref?, alt_tup, alt_lst, isi_int_non, isi_int_bl, isi_int_int, isi_int_str, isi_int_lst, isi_int_tup, isi_bool_non, isi_bool_bl, isi_bool_int, isi_bool_str, isi_bool_lst, isi_bool_tup, isi_str_non, isi_str_bl, isi_str_int, isi_str_str, isi_str_lst, isi_str_tup, isi_tuple_non, isi_tuple_bl, isi_tuple_int, isi_tuple_str, isi_tuple_lst, isi_tuple_tup, isi_list_non, isi_list_bl, isi_list_int, isi_list_str, isi_list_lst, isi_list_tup, isi_dict_non, isi_dict_bl, isi_dict_int, isi_dict_str, isi_dict_lst, isi_dict_tup, tyIn_lst2, tyD_lst, tyIn_tup2, tyD_tup, tyIn_str, tyD_str, tyIn_dct, tyD_dct, ev_cStep, ev_kC, ev_kC2T, ev_kC2F, ev_kSome, ev_cStep2, ev_kD, ev_kD2T, ev_kD2F, ev_kD3, ev_lStep, ev_kL, List.getElem?_cons_zero, List.getElem?_cons_succ, Option.join_some, Option.bind_some, Option.map_some, wipeE, List.set_cons_zero, List.set_cons_succ, List.length_cons, List.length_nil, List.map_cons, List.map_nil, gAll, gDef, List.cons_append, List.nil_append, if_true, if_false, Bool.not_true, Bool.not_false, Nat.zero_add, Nat.reduceAdd, Nat.reduceLeDiff, and_true, and_self, true_and, reduceIte, Bool.false_eq_true, $xs,*])
/-! ## the law's own functions: the same numbers -/
theorem few0 : few ([] : List D) = some [] := few_ok (by simp)
end SS
end
section
set_option Elab.async false
set_option linter.all false
set_option maxRecDepth 100000
set_option autoImplicit false
set_option maxHeartbeats 4000000
namespace SS
open PySem PySem.Spec PyProof.Rows L2 FL
local macro_rules
  | `(tactic| simp_arith only [$xs,*]) => `(tactic| simp (config := { implicitDefEqProofs := false }) only [tn_ok, oR_some, nx_ok, ev_var, ev_c, ev_bin, ev_kBin1, ev_kBin2, ev_un, ev_kUn, ev_asB, ev_kB, ev_asT, ev_kT, ev_tAnd2, ev_kAndT, ev_kAndF, ev_tOr2, ev_kOrT, ev_kOrF, ev_not, ev_kNot, ev_eAnd2, ev_kAndE, ev_kAndET, ev_kAndEF, ev_eOr2, ev_kOrE, ev_kOrET, ev_kOrEF, ev_eNot1, ev_kNotE, ev_kNotE2, ev_if, ev_kIfT, ev_kIfF, ev_aNil, ev_aCons, ev_kCons, ev_kCons2, ev_aStar, ev_kStar, ev_kStar2, ev_kStar3, ev_eTup, ev_kTup, ev_kTup2, ev_eLst, ev_kLst, ev_kLst2, ev_eNewL, ev_kNewL, ev_kNewL2, ev_newD, ev_callP, ev_kCallP, ev_call, ev_kCall, ev_kCall2, ev_oNone, ev_oSome, ev_kO, ev_kO2, ev_sl, ev_kSl, ev_kSl2, ev_kSl3, ev_sl3, ev_kT1, ev_kT2, ev_kT3, ev_kT4, ev_listRg, ev_kLR, ev_kLR2, ev_forM, ev_forMr, ev_forMl, ev_forMt, ev_forR, ev_meth, ev_kM, ev_kM2, ev_kM3, ev_meth0, ev_kM0, ev_chain, ev_kCh, ev_kCh2, ev_kCh3T, ev_kCh3F, ev_kCh4, ev_kLs, ev_kComp, ev_comp, ev_kRef, ev_compM, ev_kComp2, ev_comp2, ev_iSeq, ev_kIt, ev_iRange, ev_kRg, ev_enT, ev_enL, ev_iEnum, items_lst, items_tup, items_str, ev_true, ev_ret, ev_kRet, ev_expr, ev_kEx, ev_asg, ev_kAsg, ev_kNx, ev_seq, ev_kSeqN, ev_kSeqR, ev_kSeqB, ev_kSeqC, ev_ifS, ev_kIfST, ev_kIfSF, ev_for, ev_kFor, ev_next, ev_retN, ev_break, ev_cont, ev_par, ev_kPar, ev_par3, ev_kPar3, ev_gName, ev_gTup, ev_gsNil, ev_gsCons, ev_kGs, ev_gSub, ev_kSub, ev_kSub2, ev_kSub3, ev_kSub4, ev_mut, ev_kMu, ev_kMu2, ev_kMu3, ev_kMu4, ev_catM, ev_kCat, ev_kCat2, ev_catR, vw_non, vw_bl, vw_int, vw_str, vw_lst, vw_tup, vw_dct, vw_ref, vwO_lst, vwO_dct, tru_bl, tru_int, tru_lst, tru_tup, tru_non, add_int, add_lst, add_tup, add_str, sub_int, neg_int, gt_int, ge_int, lt_int, le_int, len_lst, len_tup, len_dct, len_str, int_int, tuple_lst, tuple_tup, list_lst, list_tup, sl_lst, sl_tup, is_non, isnt_non, non_bl, non_int, non_str, non_lst, non_tup, non_non, int_int?, ref_ref?, alt_tup, alt_lst, isi_int_non, isi_int_bl, isi_int_int, isi_int_str, isi_int_lst, isi_int_tup, isi_bool_non, isi_bool_bl, isi_bool_int, isi_bool_str, isi_bool_lst, isi_bool_tup, isi_str_non, isi_str_bl, isi_str_int, isi_str_str, isi_str_lst, isi_str_tup, isi_tuple_non, isi_tuple_bl, isi_tuple_int, isi_tuple_str, isi_tuple_lst, isi_tuple_tup, isi_list_non, isi_list_bl, isi_list_int, isi_list_str, isi_list_lst, isi_list_tup, isi_dict_non, isi_dict_bl, isi_dict_int, isi_dict_str, isi_dict_lst, isi_dict_tup, tyIn_lst2, tyD_lst, tyIn_tup2, tyD_tup, tyIn_str, tyD_str, tyIn_dct, tyD_dct, ev_cStep, ev_kC, ev_kC2T, ev_kC2F, ev_kSome, ev_cStep2, ev_kD, ev_kD2T, ev_kD2F, ev_kD3, ev_lStep, ev_kL, List.getElem?_cons_zero, List.getElem?_cons_succ, Option.join_some, Option.bind_some, Option.map_some, wipeE, List.set_cons_zero, List.set_cons_succ, List.length_cons, List.length_nil, List.map_cons, List.map_nil, gAll, gDef, List.cons_append, List.nil_append, if_true, if_false, Bool.not_true, Bool.not_false, Nat.zero_add, Nat.reduceAdd, Nat.reduceLeDiff, and_true, and_self, true_and, reduceIte, Bool.false_eq_true, $xs,*])
end SS
end
section
set_option Elab.async false
set_option linter.all false
set_option maxRecDepth 100000
set_option autoImplicit false
set_option maxHeartbeats 4000000
namespace SS
open PySem PySem.Spec PyProof.Rows L2 FL
local macro_rules
  | `(tactic| simp_arith only [$xs,*]) => `(tactic| simp (config := { implicitDefEqProofs := false }) only [tn_ok, oR_some, nx_ok, ev_var, ev_c, ev_bin, ev_kBin1, ev_kBin2, ev_un, ev_kUn, ev_asB, ev_kB, ev_asT, ev_kT, ev_tAnd2, ev_kAndT, ev_kAndF, ev_tOr2, ev_kOrT, ev_kOrF, ev_not, ev_kNot, ev_eAnd2, ev_kAndE, ev_kAndET, ev_kAndEF, ev_eOr2, ev_kOrE, ev_kOrET, ev_kOrEF, ev_eNot1, ev_kNotE, ev_kNotE2, ev_if, ev_kIfT, ev_kIfF, ev_aNil, ev_aCons, ev_kCons, ev_kCons2, ev_aStar, ev_kStar, ev_kStar2, ev_kStar3, ev_eTup, ev_kTup, ev_kTup2, ev_eLst, ev_kLst, ev_kLst2, ev_eNewL, ev_kNewL, ev_kNewL2, ev_newD, ev_callP, ev_kCallP, ev_call, ev_kCall, ev_kCall2, ev_oNone, ev_oSome, ev_kO, ev_kO2, ev_sl, ev_kSl, ev_kSl2, ev_kSl3, ev_sl3, ev_kT1, ev_kT2, ev_kT3, ev_kT4, ev_listRg, ev_kLR, ev_kLR2, ev_forM, ev_forMr, ev_forMl, ev_forMt, ev_forR, ev_meth, ev_kM, ev_kM2, ev_kM3, ev_meth0, ev_kM0, ev_chain, ev_kCh, ev_kCh2, ev_kCh3T, ev_kCh3F, ev_kCh4, ev_kLs, ev_kComp, ev_comp, ev_kRef, ev_compM, ev_kComp2, ev_comp2, ev_iSeq, ev_kIt, ev_iRange, ev_kRg, ev_enT, ev_enL, ev_iEnum, items_lst, items_tup, items_str, ev_true, ev_ret, ev_kRet, ev_expr, ev_kEx, ev_asg, ev_kAsg, ev_kNx, ev_seq, ev_kSeqN, ev_kSeqR, ev_kSeqB, ev_kSeqC, ev_ifS, ev_kIfST, ev_kIfSF, ev_for, ev_kFor, ev_next, ev_retN, ev_break, ev_cont, ev_par, ev_kPar, ev_par3, ev_kPar3, ev_gName, ev_gTup, ev_gsNil, ev_gsCons, ev_kGs, ev_gSub, ev_kSub, ev_kSub2, ev_kSub3, ev_kSub4, ev_mut, ev_kMu, ev_kMu2, ev_kMu3, ev_kMu4, ev_catM, ev_kCat, ev_kCat2, ev_catR, vw_non, vw_bl, vw_int, vw_str, vw_lst, vw_tup, vw_dct, vw_ref, vwO_lst, vwO_dct, tru_bl, tru_int, tru_lst, tru_tup, tru_non, add_int, add_lst, add_tup, add_str, sub_int, neg_int, gt_int, ge_int, lt_int, le_int, len_lst, len_tup, len_dct, len_str, int_int, tuple_lst, tuple_tup, list_lst, list_tup, sl_lst, sl_tup, is_non, isnt_non, non_bl, non_int, non_str, non_lst, non_tup, non_non, int_int?, ref_ref?, alt_tup, alt_lst, isi_int_non, isi_int_bl, isi_int_int, isi_int_str, isi_int_lst, isi_int_tup, isi_bool_non, isi_bool_bl, isi_bool_int, isi_bool_str, isi_bool_lst, isi_bool_tup, isi_str_non, isi_str_bl, isi_str_int, isi_str_str, isi_str_lst, isi_str_tup, isi_tuple_non, isi_tuple_bl, isi_tuple_int, isi_tuple_str, isi_tuple_lst, isi_tuple_tup, isi_list_non, isi_list_bl, isi_list_int, isi_list_str, isi_list_lst, isi_list_tup, isi_dict_non, isi_dict_bl, isi_dict_int, isi_dict_str, isi_dict_lst, isi_dict_tup, tyIn_lst2, tyD_lst, tyIn_tup2, tyD_tup, tyIn_str, tyD_str, tyIn_dct, tyD_dct, ev_cStep, ev_kC, ev_kC2T, ev_kC2F, ev_kSome, ev_cStep2, ev_kD, ev_kD2T, ev_kD2F, ev_kD3, ev_lStep, ev_kL, List.getElem?_cons_zero, List.getElem?_cons_succ, Option.join_some, Option.bind_some, Option.map_some, wipeE, List.set_cons_zero, List.set_cons_succ, List.length_cons, List.length_nil, List.map_cons, List.map_nil, gAll, gDef, List.cons_append, List.nil_append, if_true, if_false, Bool.not_true, Bool.not_false, Nat.zero_add, Nat.reduceAdd, Nat.reduceLeDiff, and_true, and_self, true_and, reduceIte, Bool.false_eq_true, $xs,*])
end SS
end
section
set_option Elab.async false
set_option linter.all false
set_option maxRecDepth 100000
set_option autoImplicit false
set_option maxHeartbeats 4000000
namespace SS
open PySem PySem.Spec PyProof.Rows L2 FL
local macro_rules
  | `(tactic| simp_arith only [$xs,*]) => `(tactic| simp (config := { implicitDefEqProofs := false }) only [tn_ok, oR_some, nx_ok, ev_var, ev_c, ev_bin, ev_kBin1, ev_kBin2, ev_un, ev_kUn, ev_asB, ev_kB, ev_asT, ev_kT, ev_tAnd2, ev_kAndT, ev_kAndF, ev_tOr2, ev_kOrT, ev_kOrF, ev_not, ev_kNot, ev_eAnd2, ev_kAndE, ev_kAndET, ev_kAndEF, ev_eOr2, ev_kOrE, ev_kOrET, ev_kOrEF, ev_eNot1, ev_kNotE, ev_kNotE2, ev_if, ev_kIfT, ev_kIfF, ev_aNil, ev_aCons, ev_kCons, ev_kCons2, ev_aStar, ev_kStar, ev_kStar2, ev_kStar3, ev_eTup, ev_kTup, ev_kTup2, ev_eLst, ev_kLst, ev_kLst2, ev_eNewL, ev_kNewL, ev_kNewL2, ev_newD, ev_callP, ev_kCallP, ev_call, ev_kCall, ev_kCall2, ev_oNone, ev_oSome, ev_kO, ev_kO2, ev_sl, ev_kSl, ev_kSl2, ev_kSl3, ev_sl3, ev_kT1, ev_kT2, ev_kT3, ev_kT4, ev_listRg, ev_kLR, ev_kLR2, ev_forM, ev_forMr, ev_forMl, ev_forMt, ev_forR, ev_meth, ev_kM, ev_kM2, ev_kM3, ev_meth0, ev_kM0, ev_chain, ev_kCh, ev_kCh2, ev_kCh3T, ev_kCh3F, ev_kCh4, ev_kLs, ev_kComp, ev_comp, ev_kRef, ev_compM, ev_kComp2, ev_comp2, ev_iSeq, ev_kIt, ev_iRange, ev_kRg, ev_enT, ev_enL, ev_iEnum, items_lst, items_tup, items_str, ev_true, ev_ret, ev_kRet, ev_expr, ev_kEx, ev_asg, ev_kAsg, ev_kNx, ev_seq, ev_kSeqN, ev_kSeqR, ev_kSeqB, ev_kSeqC, ev_ifS, ev_kIfST, ev_kIfSF, ev_for, ev_kFor, ev_next, ev_retN, ev_break, ev_cont, ev_par, ev_kPar, ev_par3, ev_kPar3, ev_gName, ev_gTup, ev_gsNil, ev_gsCons, ev_kGs, ev_gSub, ev_kSub, ev_kSub2, ev_kSub3, ev_kSub4, ev_mut, ev_kMu, ev_kMu2, ev_kMu3, ev_kMu4, ev_catM, ev_kCat, ev_kCat2, ev_catR, vw_non, vw_bl, vw_int, vw_str, vw_lst, vw_tup, vw_dct, vw_ref, vwO_lst, vwO_dct, tru_bl, tru_int, tru_lst, tru_tup, tru_non, add_int, add_lst, add_tup, add_str, sub_int, neg_int, gt_int, ge_int, lt_int, le_int, len_lst, len_tup, len_dct, len_str, int_int, tuple_lst, tuple_tup, list_lst, list_tup, sl_lst, sl_tup, is_non, isnt_non, non_bl, non_int, non_str, non_lst, non_tup, non_non, int_int?, ref_ref?, alt_tup, alt_lst, isi_int_non, isi_int_bl, isi_int_int, isi_int_str, isi_int_lst, isi_int_tup, isi_bool_non, isi_bool_bl, isi_bool_int, isi_bool_str, isi_bool_lst, isi_bool_tup, isi_str_non, isi_str_bl, isi_str_int, isi_str_str, isi_str_lst, isi_str_tup, isi_tuple_non, isi_tuple_bl, isi_tuple_int, isi_tuple_str, isi_tuple_lst, isi_tuple_tup, isi_list_non, isi_list_bl, isi_list_int, isi_list_str, isi_list_lst, isi_list_tup, isi_dict_non, isi_dict_bl, isi_dict_int, isi_dict_str, isi_dict_lst, isi_dict_tup, tyIn_lst2, tyD_lst, tyIn_tup2, tyD_tup, tyIn_str, tyD_str, tyIn_dct, tyD_dct, ev_cStep, ev_kC, ev_kC2T, ev_kC2F, ev_kSome, ev_cStep2, ev_kD, ev_kD2T, ev_kD2F, ev_kD3, ev_lStep, ev_kL, List.getElem?_cons_zero, List.getElem?_cons_succ, Option.join_some, Option.bind_some, Option.map_some, wipeE, List.set_cons_zero, List.set_cons_succ, List.length_cons, List.length_nil, List.map_cons, List.map_nil, gAll, gDef, List.cons_append, List.nil_append, if_true, if_false, Bool.not_true, Bool.not_false, Nat.zero_add, Nat.reduceAdd, Nat.reduceLeDiff, and_true, and_self, true_and, reduceIte, Bool.false_eq_true, $xs,*])
/-! ## the tape and its draws -/
def tapeOb (ns : List Int) (a b c : Int) : Ob := .lst [.lst (ns.map D.int), .int a, .int b, .int c]
/-- a tape with at most n draws behind it -/
def Tp (S : Sto) (i n : Nat) : Prop := ∃ ns a b c, S[i]? = some (tapeOb ns a b c) ∧ 0 ≤ a ∧ 0 ≤ c ∧ c ≤ (n : Int)
/-- only the tape has changed -/
def Ch (S S' : Sto) (i n : Nat) : Prop := (∃ o, S' = S.set i o) ∧ Tp S' i n
theorem Ch.trans {S S1 S2 : Sto} {i n m : Nat} (h : Ch S S1 i n) (k : Ch S1 S2 i m) : Ch S S2 i m := by
  obtain ⟨⟨o, rfl⟩, _⟩ := h
  obtain ⟨⟨o', e⟩, t⟩ := k
  exact ⟨⟨o', by rw [e, List.set_set]⟩, t⟩
theorem Ch.len {S S' : Sto} {i n : Nat} (h : Ch S S' i n) : S'.length = S.length := by
  obtain ⟨⟨o, rfl⟩, _⟩ := h
  simp
theorem Ch.tp {S S' : Sto} {i n : Nat} (h : Ch S S' i n) : Tp S' i n := h.2
theorem set_same {S : Sto} {i : Nat} {o : Ob} (h : S[i]? = some o) : S.set i o = S := by
  apply List.ext_getElem?
  intro j
  by_cases e : i = j
  · subst e
    rw [List.getElem?_set_self (List.getElem?_eq_some_iff.mp h).1, h]
  · rw [List.getElem?_set_ne e]
theorem Ch.refl {S : Sto} {i n : Nat} (h : Tp S i n) : Ch S S i n := by
  obtain ⟨ns, a, b, c, e, _⟩ := h
  exact ⟨⟨tapeOb ns a b c, (set_same e).symm⟩, ⟨ns, a, b, c, e, by assumption⟩⟩
theorem Tp.mono {S : Sto} {i n m : Nat} (h : Tp S i n) (hm : n ≤ m) : Tp S i m := by
  obtain ⟨ns, a, b, c, e, h1, h2, h3⟩ := h
  exact ⟨ns, a, b, c, e, h1, h2, by omega⟩
theorem Ch.mono {S S' : Sto} {i n m : Nat} (h : Ch S S' i n) (hm : n ≤ m) : Ch S S' i m := ⟨h.1, h.2.mono hm⟩
/-- what the others hold stays -/
theorem Ch.other {S S' : Sto} {i n j : Nat} (h : Ch S S' i n) (hj : j ≠ i) : S'[j]? = S[j]? := by
  obtain ⟨⟨o, rfl⟩, _⟩ := h
  rw [List.getElem?_set_ne (Ne.symm hj)]
theorem mod_nat {x : Int} {z : Nat} (hz : 0 < z) : ∃ v : Nat, v < z ∧ x % (z : Int) = (v : Int) := by
  refine ⟨(x % (z : Int)).toNat, ?_, ?_⟩
  · have h1 := Int.emod_lt_of_pos x (show (0 : Int) < (z : Int) by omega)
    have h2 := Int.emod_nonneg x (show (z : Int) ≠ 0 by omega)
    omega
  · have h2 := Int.emod_nonneg x (show (z : Int) ≠ 0 by omega)
    omega
theorem mulD_small {i j : Int} (h : FL.small64 i = true ∨ FL.small64 j = true) : mulD (.int i) (.int j) = some (.int (i * j)) := by
  have c : (FL.small64 i || FL.small64 j) = true := by rcases h with h | h <;> simp [h]
  simp only [mulD, alt, ii, on2, D.int?, guard', c, if_true]
theorem powD_small {i j : Int} (h1 : 0 ≤ j) (h2 : j ≤ 1000) (h3 : i.natAbs < 18446744073709551616) : powD (.int i) (.int j) = some (.int (i ^ j.toNat)) := by
  simp only [powD, ii, on2, D.int?, guard', decide_eq_true (⟨h1, h2, h3⟩ : 0 ≤ j ∧ j ≤ 1000 ∧ i.natAbs < 18446744073709551616), if_true]
section
variable {C0 M0 K1 A1 M1 K2 A2 M2 : Int} {S : Sto} {i z : Nat} {ns : List Int} {a b c : Int}
open Classical in
theorem ne_nilL {xs : List D} (h : Pn (.lst xs)) : neD (.lst xs) (.lst []) = some (.bl (!xs.isEmpty)) := by
  rw [neD_pn h ⟨rfl, by simp [dep, deps]⟩]
  congr 3
  cases xs with
  | nil => exact decide_eq_true rfl
  | cons x xs => exact decide_eq_false (fun z => by cases z)
open Classical in
theorem eq_nilL {xs : List D} (h : Pn (.lst xs)) : eqD (.lst xs) (.lst []) = some (.bl xs.isEmpty) := by
  rw [eqD_pn h ⟨rfl, by simp [dep, deps]⟩]
  congr 2
  cases xs with
  | nil => exact decide_eq_true rfl
  | cons x xs => exact decide_eq_false (fun z => by cases z)
open Classical in
theorem ne_nilT {xs : List D} (h : Pn (.tup xs)) : neD (.tup xs) (.tup []) = some (.bl (!xs.isEmpty)) := by
  rw [neD_pn h ⟨rfl, by simp [dep, deps]⟩]
  congr 3
  cases xs with
  | nil => exact decide_eq_true rfl
  | cons x xs => exact decide_eq_false (fun z => by cases z)
theorem pn_ints (ns : List Int) : Pn (.lst (ns.map D.int)) := (pk_lst (n := 0) fun d hd => by
  obtain ⟨x, _, rfl⟩ := List.mem_map.mp hd
  exact pk_int 0 _).pn (by omega)
theorem pow18 : powD (.int 10) (.int 18) = some (.int 1000000000000000000) := by
  rw [powD_small (by omega) (by omega) (by decide)]
  rfl
end
end SS
end
section
set_option Elab.async false
set_option linter.all false
set_option maxRecDepth 100000
set_option autoImplicit false
set_option maxHeartbeats 4000000
namespace SS
open PySem PySem.Spec PyProof.Rows L2 FL
local macro_rules
  | `(tactic| simp_arith only [$xs,*]) => `(tactic| simp (config := { implicitDefEqProofs := false }) only [tn_ok, oR_some, nx_ok, ev_var, ev_c, ev_bin, ev_kBin1, ev_kBin2, ev_un, ev_kUn, ev_asB, ev_kB, ev_asT, ev_kT, ev_tAnd2, ev_kAndT, ev_kAndF, ev_tOr2, ev_kOrT, ev_kOrF, ev_not, ev_kNot, ev_eAnd2, ev_kAndE, ev_kAndET, ev_kAndEF, ev_eOr2, ev_kOrE, ev_kOrET, ev_kOrEF, ev_eNot1, ev_kNotE, ev_kNotE2, ev_if, ev_kIfT, ev_kIfF, ev_aNil, ev_aCons, ev_kCons, ev_kCons2, ev_aStar, ev_kStar, ev_kStar2, ev_kStar3, ev_eTup, ev_kTup, ev_kTup2, ev_eLst, ev_kLst, ev_kLst2, ev_eNewL, ev_kNewL, ev_kNewL2, ev_newD, ev_callP, ev_kCallP, ev_call, ev_kCall, ev_kCall2, ev_oNone, ev_oSome, ev_kO, ev_kO2, ev_sl, ev_kSl, ev_kSl2, ev_kSl3, ev_sl3, ev_kT1, ev_kT2, ev_kT3, ev_kT4, ev_listRg, ev_kLR, ev_kLR2, ev_forM, ev_forMr, ev_forMl, ev_forMt, ev_forR, ev_meth, ev_kM, ev_kM2, ev_kM3, ev_meth0, ev_kM0, ev_chain, ev_kCh, ev_kCh2, ev_kCh3T, ev_kCh3F, ev_kCh4, ev_kLs, ev_kComp, ev_comp, ev_kRef, ev_compM, ev_kComp2, ev_comp2, ev_iSeq, ev_kIt, ev_iRange, ev_kRg, ev_enT, ev_enL, ev_iEnum, items_lst, items_tup, items_str, ev_true, ev_ret, ev_kRet, ev_expr, ev_kEx, ev_asg, ev_kAsg, ev_kNx, ev_seq, ev_kSeqN, ev_kSeqR, ev_kSeqB, ev_kSeqC, ev_ifS, ev_kIfST, ev_kIfSF, ev_for, ev_kFor, ev_next, ev_retN, ev_break, ev_cont, ev_par, ev_kPar, ev_par3, ev_kPar3, ev_gName, ev_gTup, ev_gsNil, ev_gsCons, ev_kGs, ev_gSub, ev_kSub, ev_kSub2, ev_kSub3, ev_kSub4, ev_mut, ev_kMu, ev_kMu2, ev_kMu3, ev_kMu4, ev_catM, ev_kCat, ev_kCat2, ev_catR, vw_non, vw_bl, vw_int, vw_str, vw_lst, vw_tup, vw_dct, vw_ref, vwO_lst, vwO_dct, tru_bl, tru_int, tru_lst, tru_tup, tru_non, add_int, add_lst, add_tup, add_str, sub_int, neg_int, gt_int, ge_int, lt_int, le_int, len_lst, len_tup, len_dct, len_str, int_int, tuple_lst, tuple_tup, list_lst, list_tup, sl_lst, sl_tup, is_non, isnt_non, non_bl, non_int, non_str, non_lst, non_tup, non_non, int_int?, ref_ref?, alt_tup, alt_lst, isi_int_non, isi_int_bl, isi_int_int, isi_int_str, isi_int_lst, isi_int_tup, isi_bool_non, isi_bool_bl, isi_bool_int, isi_bool_str, isi_bool_lst, isi_bool_tup, isi_str_non, isi_str_bl, isi_str_int, isi_str_str, isi_str_lst, isi_str_tup, isi_tuple_non, isi_tuple_bl, isi_tuple_int, isi_tuple_str, isi_tuple_lst, isi_tuple_tup, isi_list_non, isi_list_bl, isi_list_int, isi_list_str, isi_list_lst, isi_list_tup, isi_dict_non, isi_dict_bl, isi_dict_int, isi_dict_str, isi_dict_lst, isi_dict_tup, tyIn_lst2, tyD_lst, tyIn_tup2, tyD_tup, tyIn_str, tyD_str, tyIn_dct, tyD_dct, ev_cStep, ev_kC, ev_kC2T, ev_kC2F, ev_kSome, ev_cStep2, ev_kD, ev_kD2T, ev_kD2F, ev_kD3, ev_lStep, ev_kL, List.getElem?_cons_zero, List.getElem?_cons_succ, Option.join_some, Option.bind_some, Option.map_some, wipeE, List.set_cons_zero, List.set_cons_succ, List.length_cons, List.length_nil, List.map_cons, List.map_nil, gAll, gDef, List.cons_append, List.nil_append, if_true, if_false, Bool.not_true, Bool.not_false, Nat.zero_add, Nat.reduceAdd, Nat.reduceLeDiff, and_true, and_self, true_and, reduceIte, Bool.false_eq_true, $xs,*])
/-! ## a road -/
end SS
end
section
set_option Elab.async false
set_option linter.all false
set_option maxRecDepth 100000
set_option autoImplicit false
set_option maxHeartbeats 4000000
namespace SS
open PySem PySem.Spec PyProof.Rows L2 FL
local macro_rules
  | `(tactic| simp_arith only [$xs,*]) => `(tactic| simp (config := { implicitDefEqProofs := false }) only [tn_ok, oR_some, nx_ok, ev_var, ev_c, ev_bin, ev_kBin1, ev_kBin2, ev_un, ev_kUn, ev_asB, ev_kB, ev_asT, ev_kT, ev_tAnd2, ev_kAndT, ev_kAndF, ev_tOr2, ev_kOrT, ev_kOrF, ev_not, ev_kNot, ev_eAnd2, ev_kAndE, ev_kAndET, ev_kAndEF, ev_eOr2, ev_kOrE, ev_kOrET, ev_kOrEF, ev_eNot1, ev_kNotE, ev_kNotE2, ev_if, ev_kIfT, ev_kIfF, ev_aNil, ev_aCons, ev_kCons, ev_kCons2, ev_aStar, ev_kStar, ev_kStar2, ev_kStar3, ev_eTup, ev_kTup, ev_kTup2, ev_eLst, ev_kLst, ev_kLst2, ev_eNewL, ev_kNewL, ev_kNewL2, ev_newD, ev_callP, ev_kCallP, ev_call, ev_kCall, ev_kCall2, ev_oNone, ev_oSome, ev_kO, ev_kO2, ev_sl, ev_kSl, ev_kSl2, ev_kSl3, ev_sl3, ev_kT1, ev_kT2, ev_kT3, ev_kT4, ev_listRg, ev_kLR, ev_kLR2, ev_forM, ev_forMr, ev_forMl, ev_forMt, ev_forR, ev_meth, ev_kM, ev_kM2, ev_kM3, ev_meth0, ev_kM0, ev_chain, ev_kCh, ev_kCh2, ev_kCh3T, ev_kCh3F, ev_kCh4, ev_kLs, ev_kComp, ev_comp, ev_kRef, ev_compM, ev_kComp2, ev_comp2, ev_iSeq, ev_kIt, ev_iRange, ev_kRg, ev_enT, ev_enL, ev_iEnum, items_lst, items_tup, items_str, ev_true, ev_ret, ev_kRet, ev_expr, ev_kEx, ev_asg, ev_kAsg, ev_kNx, ev_seq, ev_kSeqN, ev_kSeqR, ev_kSeqB, ev_kSeqC, ev_ifS, ev_kIfST, ev_kIfSF, ev_for, ev_kFor, ev_next, ev_retN, ev_break, ev_cont, ev_par, ev_kPar, ev_par3, ev_kPar3, ev_gName, ev_gTup, ev_gsNil, ev_gsCons, ev_kGs, ev_gSub, ev_kSub, ev_kSub2, ev_kSub3, ev_kSub4, ev_mut, ev_kMu, ev_kMu2, ev_kMu3, ev_kMu4, ev_catM, ev_kCat, ev_kCat2, ev_catR, vw_non, vw_bl, vw_int, vw_str, vw_lst, vw_tup, vw_dct, vw_ref, vwO_lst, vwO_dct, tru_bl, tru_int, tru_lst, tru_tup, tru_non, add_int, add_lst, add_tup, add_str, sub_int, neg_int, gt_int, ge_int, lt_int, le_int, len_lst, len_tup, len_dct, len_str, int_int, tuple_lst, tuple_tup, list_lst, list_tup, sl_lst, sl_tup, is_non, isnt_non, non_bl, non_int, non_str, non_lst, non_tup, non_non, int_int?, ref_ref?, alt_tup, alt_lst, isi_int_non, isi_int_bl, isi_int_int, isi_int_str, isi_int_lst, isi_int_tup, isi_bool_non, isi_bool_bl, isi_bool_int, isi_bool_str, isi_bool_lst, isi_bool_tup, isi_str_non, isi_str_bl, isi_str_int, isi_str_str, isi_str_lst, isi_str_tup, isi_tuple_non, isi_tuple_bl, isi_tuple_int, isi_tuple_str, isi_tuple_lst, isi_tuple_tup, isi_list_non, isi_list_bl, isi_list_int, isi_list_str, isi_list_lst, isi_list_tup, isi_dict_non, isi_dict_bl, isi_dict_int, isi_dict_str, isi_dict_lst, isi_dict_tup, tyIn_lst2, tyD_lst, tyIn_tup2, tyD_tup, tyIn_str, tyD_str, tyIn_dct, tyD_dct, ev_cStep, ev_kC, ev_kC2T, ev_kC2F, ev_kSome, ev_cStep2, ev_kD, ev_kD2T, ev_kD2F, ev_kD3, ev_lStep, ev_kL, List.getElem?_cons_zero, List.getElem?_cons_succ, Option.join_some, Option.bind_some, Option.map_some, wipeE, List.set_cons_zero, List.set_cons_succ, List.length_cons, List.length_nil, List.map_cons, List.map_nil, gAll, gDef, List.cons_append, List.nil_append, if_true, if_false, Bool.not_true, Bool.not_false, Nat.zero_add, Nat.reduceAdd, Nat.reduceLeDiff, and_true, and_self, true_and, reduceIte, Bool.false_eq_true, $xs,*])
/-! ## names -/
def ch1 (c : Nat) : Str := ⟨#[c]⟩
theorem ix_str {x : Str} {k : Nat} {c : Nat} (hl : x.length ≤ 1000) (h : x.cps.toList[k]? = some c) : ixD (.str x) (.int (k : Nat)) = some (.str (ch1 c)) := by
  simp only [ixD, alt, on2, D.lst?, D.tup?, D.int?, D.str?, D.dct?]
  rw [if_pos (by omega), atI_nat h]
  rfl
theorem putD_new {kvs : List (Key × D)} {k : Key} {v : D} (h : ∀ q ∈ kvs, q.1 ≠ k) : putD kvs k v = kvs ++ [(k, v)] := by
  unfold putD
  rw [if_neg]
  rw [List.any_eq_true]
  rintro ⟨q, hq, e⟩
  exact h q hq (of_decide_eq_true e)
theorem setAt_dct {S : Sto} {n : Nat} {kvs : List (Key × D)} {x : Str} {d : D} (h : S[n]? = some (.dct kvs)) (hl : kvs.length < 1000000) : setAt n (.str x) d S = .ok () (S.set n (.dct (putD kvs (.inr x) d))) := by
  unfold setAt
  rw [h]
  simp only [setOb, D.key?, Option.bind_some, hl, if_true]
theorem loopD_step {b : FGx} {body : FSx} {d : D} {ds : List D} {r r' : FL.Env} {S S' : Sto} (h : lStep b body d r S = .ok (.nx r') S') : loopD b body (d :: ds) r S = loopD b body ds r' S' := by
  rw [loopD_cons]
  simp only [bnd, h]
/-! ## stores that grow -/
theorem Tp.lt {S : Sto} {i n : Nat} (h : Tp S i n) : i < S.length := by
  obtain ⟨_, _, _, _, e, _⟩ := h
  exact (List.getElem?_eq_some_iff.mp e).1
end SS
end
section
set_option Elab.async false
set_option linter.all false
set_option maxRecDepth 100000
set_option autoImplicit false
set_option maxHeartbeats 4000000
namespace SS
open PySem PySem.Spec PyProof.Rows L2 FL
local macro_rules
  | `(tactic| simp_arith only [$xs,*]) => `(tactic| simp (config := { implicitDefEqProofs := false }) only [tn_ok, oR_some, nx_ok, ev_var, ev_c, ev_bin, ev_kBin1, ev_kBin2, ev_un, ev_kUn, ev_asB, ev_kB, ev_asT, ev_kT, ev_tAnd2, ev_kAndT, ev_kAndF, ev_tOr2, ev_kOrT, ev_kOrF, ev_not, ev_kNot, ev_eAnd2, ev_kAndE, ev_kAndET, ev_kAndEF, ev_eOr2, ev_kOrE, ev_kOrET, ev_kOrEF, ev_eNot1, ev_kNotE, ev_kNotE2, ev_if, ev_kIfT, ev_kIfF, ev_aNil, ev_aCons, ev_kCons, ev_kCons2, ev_aStar, ev_kStar, ev_kStar2, ev_kStar3, ev_eTup, ev_kTup, ev_kTup2, ev_eLst, ev_kLst, ev_kLst2, ev_eNewL, ev_kNewL, ev_kNewL2, ev_newD, ev_callP, ev_kCallP, ev_call, ev_kCall, ev_kCall2, ev_oNone, ev_oSome, ev_kO, ev_kO2, ev_sl, ev_kSl, ev_kSl2, ev_kSl3, ev_sl3, ev_kT1, ev_kT2, ev_kT3, ev_kT4, ev_listRg, ev_kLR, ev_kLR2, ev_forM, ev_forMr, ev_forMl, ev_forMt, ev_forR, ev_meth, ev_kM, ev_kM2, ev_kM3, ev_meth0, ev_kM0, ev_chain, ev_kCh, ev_kCh2, ev_kCh3T, ev_kCh3F, ev_kCh4, ev_kLs, ev_kComp, ev_comp, ev_kRef, ev_compM, ev_kComp2, ev_comp2, ev_iSeq, ev_kIt, ev_iRange, ev_kRg, ev_enT, ev_enL, ev_iEnum, items_lst, items_tup, items_str, ev_true, ev_ret, ev_kRet, ev_expr, ev_kEx, ev_asg, ev_kAsg, ev_kNx, ev_seq, ev_kSeqN, ev_kSeqR, ev_kSeqB, ev_kSeqC, ev_ifS, ev_kIfST, ev_kIfSF, ev_for, ev_kFor, ev_next, ev_retN, ev_break, ev_cont, ev_par, ev_kPar, ev_par3, ev_kPar3, ev_gName, ev_gTup, ev_gsNil, ev_gsCons, ev_kGs, ev_gSub, ev_kSub, ev_kSub2, ev_kSub3, ev_kSub4, ev_mut, ev_kMu, ev_kMu2, ev_kMu3, ev_kMu4, ev_catM, ev_kCat, ev_kCat2, ev_catR, vw_non, vw_bl, vw_int, vw_str, vw_lst, vw_tup, vw_dct, vw_ref, vwO_lst, vwO_dct, tru_bl, tru_int, tru_lst, tru_tup, tru_non, add_int, add_lst, add_tup, add_str, sub_int, neg_int, gt_int, ge_int, lt_int, le_int, len_lst, len_tup, len_dct, len_str, int_int, tuple_lst, tuple_tup, list_lst, list_tup, sl_lst, sl_tup, is_non, isnt_non, non_bl, non_int, non_str, non_lst, non_tup, non_non, int_int?, ref_ref?, alt_tup, alt_lst, isi_int_non, isi_int_bl, isi_int_int, isi_int_str, isi_int_lst, isi_int_tup, isi_bool_non, isi_bool_bl, isi_bool_int, isi_bool_str, isi_bool_lst, isi_bool_tup, isi_str_non, isi_str_bl, isi_str_int, isi_str_str, isi_str_lst, isi_str_tup, isi_tuple_non, isi_tuple_bl, isi_tuple_int, isi_tuple_str, isi_tuple_lst, isi_tuple_tup, isi_list_non, isi_list_bl, isi_list_int, isi_list_str, isi_list_lst, isi_list_tup, isi_dict_non, isi_dict_bl, isi_dict_int, isi_dict_str, isi_dict_lst, isi_dict_tup, tyIn_lst2, tyD_lst, tyIn_tup2, tyD_tup, tyIn_str, tyD_str, tyIn_dct, tyD_dct, ev_cStep, ev_kC, ev_kC2T, ev_kC2F, ev_kSome, ev_cStep2, ev_kD, ev_kD2T, ev_kD2F, ev_kD3, ev_lStep, ev_kL, List.getElem?_cons_zero, List.getElem?_cons_succ, Option.join_some, Option.bind_some, Option.map_some, wipeE, List.set_cons_zero, List.set_cons_succ, List.length_cons, List.length_nil, List.map_cons, List.map_nil, gAll, gDef, List.cons_append, List.nil_append, if_true, if_false, Bool.not_true, Bool.not_false, Nat.zero_add, Nat.reduceAdd, Nat.reduceLeDiff, and_true, and_self, true_and, reduceIte, Bool.false_eq_true, $xs,*])
/-! ## the table of names -/
def codes : List Nat := [99, 100, 115, 116, 117, 118, 112, 113, 114]
def tabKV (nm : Nat → Str) : List (Key × D) := codes.map fun c => (.inr (ch1 c), .str (nm c))
structure TabOk (nm : Nat → Str) : Prop where
  ok : ∀ c ∈ codes, okN (nm c)
  cs : ([99, 100].map nm).Nodup
  ss : ([115, 116, 117, 118].map nm).Nodup
  ps : ([112, 113, 114].map nm).Nodup
instance (n : Str) : Decidable (okN n) := by unfold okN; infer_instance
theorem mergeD_new : ∀ (more kvs : List (Key × D)), (∀ q ∈ more, ∀ q' ∈ kvs, q'.1 ≠ q.1) → (more.map (·.1)).Nodup → mergeD kvs more = kvs ++ more
  | [], kvs, _, _ => by simp [mergeD]
  | m :: more, kvs, h, nd => by
    rw [List.map_cons, List.nodup_cons] at nd
    have e : mergeD kvs (m :: more) = mergeD (putD kvs m.1 m.2) more := rfl
    rw [e, putD_new (fun q hq => h m List.mem_cons_self q hq), mergeD_new more _ (fun q hq q' hq' => ?_) nd.2]
    · simp
    · rcases List.mem_append.mp hq' with h1 | h1
      · exact h q (List.mem_cons_of_mem _ hq) q' h1
      · rw [List.mem_singleton] at h1
        subst h1
        exact fun z => nd.1 (List.mem_map.mpr ⟨q, hq, z.symm⟩)
end SS
end
section
set_option Elab.async false
set_option linter.all false
set_option maxRecDepth 100000
set_option autoImplicit false
set_option maxHeartbeats 4000000
namespace SS
open PySem PySem.Spec PyProof.Rows L2 FL
local macro_rules
  | `(tactic| simp_arith only [$xs,*]) => `(tactic| simp (config := { implicitDefEqProofs := false }) only [tn_ok, oR_some, nx_ok, ev_var, ev_c, ev_bin, ev_kBin1, ev_kBin2, ev_un, ev_kUn, ev_asB, ev_kB, ev_asT, ev_kT, ev_tAnd2, ev_kAndT, ev_kAndF, ev_tOr2, ev_kOrT, ev_kOrF, ev_not, ev_kNot, ev_eAnd2, ev_kAndE, ev_kAndET, ev_kAndEF, ev_eOr2, ev_kOrE, ev_kOrET, ev_kOrEF, ev_eNot1, ev_kNotE, ev_kNotE2, ev_if, ev_kIfT, ev_kIfF, ev_aNil, ev_aCons, ev_kCons, ev_kCons2, ev_aStar, ev_kStar, ev_kStar2, ev_kStar3, ev_eTup, ev_kTup, ev_kTup2, ev_eLst, ev_kLst, ev_kLst2, ev_eNewL, ev_kNewL, ev_kNewL2, ev_newD, ev_callP, ev_kCallP, ev_call, ev_kCall, ev_kCall2, ev_oNone, ev_oSome, ev_kO, ev_kO2, ev_sl, ev_kSl, ev_kSl2, ev_kSl3, ev_sl3, ev_kT1, ev_kT2, ev_kT3, ev_kT4, ev_listRg, ev_kLR, ev_kLR2, ev_forM, ev_forMr, ev_forMl, ev_forMt, ev_forR, ev_meth, ev_kM, ev_kM2, ev_kM3, ev_meth0, ev_kM0, ev_chain, ev_kCh, ev_kCh2, ev_kCh3T, ev_kCh3F, ev_kCh4, ev_kLs, ev_kComp, ev_comp, ev_kRef, ev_compM, ev_kComp2, ev_comp2, ev_iSeq, ev_kIt, ev_iRange, ev_kRg, ev_enT, ev_enL, ev_iEnum, items_lst, items_tup, items_str, ev_true, ev_ret, ev_kRet, ev_expr, ev_kEx, ev_asg, ev_kAsg, ev_kNx, ev_seq, ev_kSeqN, ev_kSeqR, ev_kSeqB, ev_kSeqC, ev_ifS, ev_kIfST, ev_kIfSF, ev_for, ev_kFor, ev_next, ev_retN, ev_break, ev_cont, ev_par, ev_kPar, ev_par3, ev_kPar3, ev_gName, ev_gTup, ev_gsNil, ev_gsCons, ev_kGs, ev_gSub, ev_kSub, ev_kSub2, ev_kSub3, ev_kSub4, ev_mut, ev_kMu, ev_kMu2, ev_kMu3, ev_kMu4, ev_catM, ev_kCat, ev_kCat2, ev_catR, vw_non, vw_bl, vw_int, vw_str, vw_lst, vw_tup, vw_dct, vw_ref, vwO_lst, vwO_dct, tru_bl, tru_int, tru_lst, tru_tup, tru_non, add_int, add_lst, add_tup, add_str, sub_int, neg_int, gt_int, ge_int, lt_int, le_int, len_lst, len_tup, len_dct, len_str, int_int, tuple_lst, tuple_tup, list_lst, list_tup, sl_lst, sl_tup, is_non, isnt_non, non_bl, non_int, non_str, non_lst, non_tup, non_non, int_int?, ref_ref?, alt_tup, alt_lst, isi_int_non, isi_int_bl, isi_int_int, isi_int_str, isi_int_lst, isi_int_tup, isi_bool_non, isi_bool_bl, isi_bool_int, isi_bool_str, isi_bool_lst, isi_bool_tup, isi_str_non, isi_str_bl, isi_str_int, isi_str_str, isi_str_lst, isi_str_tup, isi_tuple_non, isi_tuple_bl, isi_tuple_int, isi_tuple_str, isi_tuple_lst, isi_tuple_tup, isi_list_non, isi_list_bl, isi_list_int, isi_list_str, isi_list_lst, isi_list_tup, isi_dict_non, isi_dict_bl, isi_dict_int, isi_dict_str, isi_dict_lst, isi_dict_tup, tyIn_lst2, tyD_lst, tyIn_tup2, tyD_tup, tyIn_str, tyD_str, tyIn_dct, tyD_dct, ev_cStep, ev_kC, ev_kC2T, ev_kC2F, ev_kSome, ev_cStep2, ev_kD, ev_kD2T, ev_kD2F, ev_kD3, ev_lStep, ev_kL, List.getElem?_cons_zero, List.getElem?_cons_succ, Option.join_some, Option.bind_some, Option.map_some, wipeE, List.set_cons_zero, List.set_cons_succ, List.length_cons, List.length_nil, List.map_cons, List.map_nil, gAll, gDef, List.cons_append, List.nil_append, if_true, if_false, Bool.not_true, Bool.not_false, Nat.zero_add, Nat.reduceAdd, Nat.reduceLeDiff, and_true, and_self, true_and, reduceIte, Bool.false_eq_true, $xs,*])
/-! ## words of a page -/
def conv (kv : List (Key × D)) (w : Str) : D := if Txt.isdigit w = true then .int ((PySem.intText? w).getD 0) else (lookK kv (.inr w)).getD (.str w)
theorem look_ix (kv : List (Key × D)) (w : Str) : ixD (.dct kv) (.str w) = lookK kv (.inr w) := by
  simp only [ixD, alt, on2, D.lst?, D.tup?, D.int?, D.str?, D.dct?, D.key?]
theorem look_none {nm : Nat → Str} {w : Str} (h : ∀ c ∈ codes, ch1 c ≠ w) : lookK (tabKV nm) (.inr w) = none := by
  unfold lookK tabKV
  rw [Option.map_eq_none_iff, List.find?_eq_none]
  intro q hq
  obtain ⟨c, hc, rfl⟩ := List.mem_map.mp hq
  simp only [decide_eq_true_eq]
  exact fun z => h c hc (Sum.inr.inj z)
/-- a word that stands for itself -/
def plainW (w : Str) : Bool := !Txt.isdigit w && codes.all fun c => decide (ch1 c ≠ w)
theorem conv_plain {nm : Nat → Str} {w : Str} (h : plainW w = true) : conv (tabKV nm) w = .str w := by
  unfold plainW at h
  rw [Bool.and_eq_true] at h
  unfold conv
  rw [if_neg (by simpa using h.1), look_none (fun c hc => of_decide_eq_true (List.all_eq_true.mp h.2 c hc))]
  rfl
/-! ## deeds of a page -/
def wd : List Str := ["do", "x"]
def w2 : List Str := ["keep", "same", "other"]
def w3 : List Str := ["copy", "agree", "differ", "newer", "elder"]
def wr : List Str := ["rise", "spare"]
theorem plain_words : (w2 ++ w3 ++ wr ++ wd).all plainW = true := by decide +kernel
theorem pl {w : Str} (h : w ∈ w2 ++ w3 ++ wr ++ wd) (nm : Nat → Str) : conv (tabKV nm) w = .str w := conv_plain (List.all_eq_true.mp plain_words w h)
end SS
end
section
set_option Elab.async false
set_option linter.all false
set_option maxRecDepth 100000
set_option autoImplicit false
set_option maxHeartbeats 4000000
namespace SS
open PySem PySem.Spec PyProof.Rows L2 FL
local macro_rules
  | `(tactic| simp_arith only [$xs,*]) => `(tactic| simp (config := { implicitDefEqProofs := false }) only [tn_ok, oR_some, nx_ok, ev_var, ev_c, ev_bin, ev_kBin1, ev_kBin2, ev_un, ev_kUn, ev_asB, ev_kB, ev_asT, ev_kT, ev_tAnd2, ev_kAndT, ev_kAndF, ev_tOr2, ev_kOrT, ev_kOrF, ev_not, ev_kNot, ev_eAnd2, ev_kAndE, ev_kAndET, ev_kAndEF, ev_eOr2, ev_kOrE, ev_kOrET, ev_kOrEF, ev_eNot1, ev_kNotE, ev_kNotE2, ev_if, ev_kIfT, ev_kIfF, ev_aNil, ev_aCons, ev_kCons, ev_kCons2, ev_aStar, ev_kStar, ev_kStar2, ev_kStar3, ev_eTup, ev_kTup, ev_kTup2, ev_eLst, ev_kLst, ev_kLst2, ev_eNewL, ev_kNewL, ev_kNewL2, ev_newD, ev_callP, ev_kCallP, ev_call, ev_kCall, ev_kCall2, ev_oNone, ev_oSome, ev_kO, ev_kO2, ev_sl, ev_kSl, ev_kSl2, ev_kSl3, ev_sl3, ev_kT1, ev_kT2, ev_kT3, ev_kT4, ev_listRg, ev_kLR, ev_kLR2, ev_forM, ev_forMr, ev_forMl, ev_forMt, ev_forR, ev_meth, ev_kM, ev_kM2, ev_kM3, ev_meth0, ev_kM0, ev_chain, ev_kCh, ev_kCh2, ev_kCh3T, ev_kCh3F, ev_kCh4, ev_kLs, ev_kComp, ev_comp, ev_kRef, ev_compM, ev_kComp2, ev_comp2, ev_iSeq, ev_kIt, ev_iRange, ev_kRg, ev_enT, ev_enL, ev_iEnum, items_lst, items_tup, items_str, ev_true, ev_ret, ev_kRet, ev_expr, ev_kEx, ev_asg, ev_kAsg, ev_kNx, ev_seq, ev_kSeqN, ev_kSeqR, ev_kSeqB, ev_kSeqC, ev_ifS, ev_kIfST, ev_kIfSF, ev_for, ev_kFor, ev_next, ev_retN, ev_break, ev_cont, ev_par, ev_kPar, ev_par3, ev_kPar3, ev_gName, ev_gTup, ev_gsNil, ev_gsCons, ev_kGs, ev_gSub, ev_kSub, ev_kSub2, ev_kSub3, ev_kSub4, ev_mut, ev_kMu, ev_kMu2, ev_kMu3, ev_kMu4, ev_catM, ev_kCat, ev_kCat2, ev_catR, vw_non, vw_bl, vw_int, vw_str, vw_lst, vw_tup, vw_dct, vw_ref, vwO_lst, vwO_dct, tru_bl, tru_int, tru_lst, tru_tup, tru_non, add_int, add_lst, add_tup, add_str, sub_int, neg_int, gt_int, ge_int, lt_int, le_int, len_lst, len_tup, len_dct, len_str, int_int, tuple_lst, tuple_tup, list_lst, list_tup, sl_lst, sl_tup, is_non, isnt_non, non_bl, non_int, non_str, non_lst, non_tup, non_non, int_int?, ref_ref?, alt_tup, alt_lst, isi_int_non, isi_int_bl, isi_int_int, isi_int_str, isi_int_lst, isi_int_tup, isi_bool_non, isi_bool_bl, isi_bool_int, isi_bool_str, isi_bool_lst, isi_bool_tup, isi_str_non, isi_str_bl, isi_str_int, isi_str_str, isi_str_lst, isi_str_tup, isi_tuple_non, isi_tuple_bl, isi_tuple_int, isi_tuple_str, isi_tuple_lst, isi_tuple_tup, isi_list_non, isi_list_bl, isi_list_int, isi_list_str, isi_list_lst, isi_list_tup, isi_dict_non, isi_dict_bl, isi_dict_int, isi_dict_str, isi_dict_lst, isi_dict_tup, tyIn_lst2, tyD_lst, tyIn_tup2, tyD_tup, tyIn_str, tyD_str, tyIn_dct, tyD_dct, ev_cStep, ev_kC, ev_kC2T, ev_kC2F, ev_kSome, ev_cStep2, ev_kD, ev_kD2T, ev_kD2F, ev_kD3, ev_lStep, ev_kL, List.getElem?_cons_zero, List.getElem?_cons_succ, Option.join_some, Option.bind_some, Option.map_some, wipeE, List.set_cons_zero, List.set_cons_succ, List.length_cons, List.length_nil, List.map_cons, List.map_nil, gAll, gDef, List.cons_append, List.nil_append, if_true, if_false, Bool.not_true, Bool.not_false, Nat.zero_add, Nat.reduceAdd, Nat.reduceLeDiff, and_true, and_self, true_and, reduceIte, Bool.false_eq_true, $xs,*])
/-! ## sorting -/
/-! ## a page -/
end SS
end
section
set_option Elab.async false
set_option linter.all false
set_option maxRecDepth 100000
set_option autoImplicit false
set_option maxHeartbeats 4000000
namespace SS
open PySem PySem.Spec PyProof.Rows L2 FL
local macro_rules
  | `(tactic| simp_arith only [$xs,*]) => `(tactic| simp (config := { implicitDefEqProofs := false }) only [tn_ok, oR_some, nx_ok, ev_var, ev_c, ev_bin, ev_kBin1, ev_kBin2, ev_un, ev_kUn, ev_asB, ev_kB, ev_asT, ev_kT, ev_tAnd2, ev_kAndT, ev_kAndF, ev_tOr2, ev_kOrT, ev_kOrF, ev_not, ev_kNot, ev_eAnd2, ev_kAndE, ev_kAndET, ev_kAndEF, ev_eOr2, ev_kOrE, ev_kOrET, ev_kOrEF, ev_eNot1, ev_kNotE, ev_kNotE2, ev_if, ev_kIfT, ev_kIfF, ev_aNil, ev_aCons, ev_kCons, ev_kCons2, ev_aStar, ev_kStar, ev_kStar2, ev_kStar3, ev_eTup, ev_kTup, ev_kTup2, ev_eLst, ev_kLst, ev_kLst2, ev_eNewL, ev_kNewL, ev_kNewL2, ev_newD, ev_callP, ev_kCallP, ev_call, ev_kCall, ev_kCall2, ev_oNone, ev_oSome, ev_kO, ev_kO2, ev_sl, ev_kSl, ev_kSl2, ev_kSl3, ev_sl3, ev_kT1, ev_kT2, ev_kT3, ev_kT4, ev_listRg, ev_kLR, ev_kLR2, ev_forM, ev_forMr, ev_forMl, ev_forMt, ev_forR, ev_meth, ev_kM, ev_kM2, ev_kM3, ev_meth0, ev_kM0, ev_chain, ev_kCh, ev_kCh2, ev_kCh3T, ev_kCh3F, ev_kCh4, ev_kLs, ev_kComp, ev_comp, ev_kRef, ev_compM, ev_kComp2, ev_comp2, ev_iSeq, ev_kIt, ev_iRange, ev_kRg, ev_enT, ev_enL, ev_iEnum, items_lst, items_tup, items_str, ev_true, ev_ret, ev_kRet, ev_expr, ev_kEx, ev_asg, ev_kAsg, ev_kNx, ev_seq, ev_kSeqN, ev_kSeqR, ev_kSeqB, ev_kSeqC, ev_ifS, ev_kIfST, ev_kIfSF, ev_for, ev_kFor, ev_next, ev_retN, ev_break, ev_cont, ev_par, ev_kPar, ev_par3, ev_kPar3, ev_gName, ev_gTup, ev_gsNil, ev_gsCons, ev_kGs, ev_gSub, ev_kSub, ev_kSub2, ev_kSub3, ev_kSub4, ev_mut, ev_kMu, ev_kMu2, ev_kMu3, ev_kMu4, ev_catM, ev_kCat, ev_kCat2, ev_catR, vw_non, vw_bl, vw_int, vw_str, vw_lst, vw_tup, vw_dct, vw_ref, vwO_lst, vwO_dct, tru_bl, tru_int, tru_lst, tru_tup, tru_non, add_int, add_lst, add_tup, add_str, sub_int, neg_int, gt_int, ge_int, lt_int, le_int, len_lst, len_tup, len_dct, len_str, int_int, tuple_lst, tuple_tup, list_lst, list_tup, sl_lst, sl_tup, is_non, isnt_non, non_bl, non_int, non_str, non_lst, non_tup, non_non, int_int?, ref_ref?, alt_tup, alt_lst, isi_int_non, isi_int_bl, isi_int_int, isi_int_str, isi_int_lst, isi_int_tup, isi_bool_non, isi_bool_bl, isi_bool_int, isi_bool_str, isi_bool_lst, isi_bool_tup, isi_str_non, isi_str_bl, isi_str_int, isi_str_str, isi_str_lst, isi_str_tup, isi_tuple_non, isi_tuple_bl, isi_tuple_int, isi_tuple_str, isi_tuple_lst, isi_tuple_tup, isi_list_non, isi_list_bl, isi_list_int, isi_list_str, isi_list_lst, isi_list_tup, isi_dict_non, isi_dict_bl, isi_dict_int, isi_dict_str, isi_dict_lst, isi_dict_tup, tyIn_lst2, tyD_lst, tyIn_tup2, tyD_tup, tyIn_str, tyD_str, tyIn_dct, tyD_dct, ev_cStep, ev_kC, ev_kC2T, ev_kC2F, ev_kSome, ev_cStep2, ev_kD, ev_kD2T, ev_kD2F, ev_kD3, ev_lStep, ev_kL, List.getElem?_cons_zero, List.getElem?_cons_succ, Option.join_some, Option.bind_some, Option.map_some, wipeE, List.set_cons_zero, List.set_cons_succ, List.length_cons, List.length_nil, List.map_cons, List.map_nil, gAll, gDef, List.cons_append, List.nil_append, if_true, if_false, Bool.not_true, Bool.not_false, Nat.zero_add, Nat.reduceAdd, Nat.reduceLeDiff, and_true, and_self, true_and, reduceIte, Bool.false_eq_true, $xs,*])
end SS
end
section
set_option Elab.async false
set_option linter.all false
set_option maxRecDepth 100000
set_option autoImplicit false
set_option maxHeartbeats 4000000
namespace SS
open PySem PySem.Spec PyProof.Rows L2 FL
local macro_rules
  | `(tactic| simp_arith only [$xs,*]) => `(tactic| simp (config := { implicitDefEqProofs := false }) only [tn_ok, oR_some, nx_ok, ev_var, ev_c, ev_bin, ev_kBin1, ev_kBin2, ev_un, ev_kUn, ev_asB, ev_kB, ev_asT, ev_kT, ev_tAnd2, ev_kAndT, ev_kAndF, ev_tOr2, ev_kOrT, ev_kOrF, ev_not, ev_kNot, ev_eAnd2, ev_kAndE, ev_kAndET, ev_kAndEF, ev_eOr2, ev_kOrE, ev_kOrET, ev_kOrEF, ev_eNot1, ev_kNotE, ev_kNotE2, ev_if, ev_kIfT, ev_kIfF, ev_aNil, ev_aCons, ev_kCons, ev_kCons2, ev_aStar, ev_kStar, ev_kStar2, ev_kStar3, ev_eTup, ev_kTup, ev_kTup2, ev_eLst, ev_kLst, ev_kLst2, ev_eNewL, ev_kNewL, ev_kNewL2, ev_newD, ev_callP, ev_kCallP, ev_call, ev_kCall, ev_kCall2, ev_oNone, ev_oSome, ev_kO, ev_kO2, ev_sl, ev_kSl, ev_kSl2, ev_kSl3, ev_sl3, ev_kT1, ev_kT2, ev_kT3, ev_kT4, ev_listRg, ev_kLR, ev_kLR2, ev_forM, ev_forMr, ev_forMl, ev_forMt, ev_forR, ev_meth, ev_kM, ev_kM2, ev_kM3, ev_meth0, ev_kM0, ev_chain, ev_kCh, ev_kCh2, ev_kCh3T, ev_kCh3F, ev_kCh4, ev_kLs, ev_kComp, ev_comp, ev_kRef, ev_compM, ev_kComp2, ev_comp2, ev_iSeq, ev_kIt, ev_iRange, ev_kRg, ev_enT, ev_enL, ev_iEnum, items_lst, items_tup, items_str, ev_true, ev_ret, ev_kRet, ev_expr, ev_kEx, ev_asg, ev_kAsg, ev_kNx, ev_seq, ev_kSeqN, ev_kSeqR, ev_kSeqB, ev_kSeqC, ev_ifS, ev_kIfST, ev_kIfSF, ev_for, ev_kFor, ev_next, ev_retN, ev_break, ev_cont, ev_par, ev_kPar, ev_par3, ev_kPar3, ev_gName, ev_gTup, ev_gsNil, ev_gsCons, ev_kGs, ev_gSub, ev_kSub, ev_kSub2, ev_kSub3, ev_kSub4, ev_mut, ev_kMu, ev_kMu2, ev_kMu3, ev_kMu4, ev_catM, ev_kCat, ev_kCat2, ev_catR, vw_non, vw_bl, vw_int, vw_str, vw_lst, vw_tup, vw_dct, vw_ref, vwO_lst, vwO_dct, tru_bl, tru_int, tru_lst, tru_tup, tru_non, add_int, add_lst, add_tup, add_str, sub_int, neg_int, gt_int, ge_int, lt_int, le_int, len_lst, len_tup, len_dct, len_str, int_int, tuple_lst, tuple_tup, list_lst, list_tup, sl_lst, sl_tup, is_non, isnt_non, non_bl, non_int, non_str, non_lst, non_tup, non_non, int_int?, ref_ref?, alt_tup, alt_lst, isi_int_non, isi_int_bl, isi_int_int, isi_int_str, isi_int_lst, isi_int_tup, isi_bool_non, isi_bool_bl, isi_bool_int, isi_bool_str, isi_bool_lst, isi_bool_tup, isi_str_non, isi_str_bl, isi_str_int, isi_str_str, isi_str_lst, isi_str_tup, isi_tuple_non, isi_tuple_bl, isi_tuple_int, isi_tuple_str, isi_tuple_lst, isi_tuple_tup, isi_list_non, isi_list_bl, isi_list_int, isi_list_str, isi_list_lst, isi_list_tup, isi_dict_non, isi_dict_bl, isi_dict_int, isi_dict_str, isi_dict_lst, isi_dict_tup, tyIn_lst2, tyD_lst, tyIn_tup2, tyD_tup, tyIn_str, tyD_str, tyIn_dct, tyD_dct, ev_cStep, ev_kC, ev_kC2T, ev_kC2F, ev_kSome, ev_cStep2, ev_kD, ev_kD2T, ev_kD2F, ev_kD3, ev_lStep, ev_kL, List.getElem?_cons_zero, List.getElem?_cons_succ, Option.join_some, Option.bind_some, Option.map_some, wipeE, List.set_cons_zero, List.set_cons_succ, List.length_cons, List.length_nil, List.map_cons, List.map_nil, gAll, gDef, List.cons_append, List.nil_append, if_true, if_false, Bool.not_true, Bool.not_false, Nat.zero_add, Nat.reduceAdd, Nat.reduceLeDiff, and_true, and_self, true_and, reduceIte, Bool.false_eq_true, $xs,*])
/-! ## the scenes -/
end SS
end
section
set_option Elab.async false
set_option linter.all false
set_option maxRecDepth 100000
set_option autoImplicit false
set_option maxHeartbeats 4000000
namespace SS
open PySem PySem.Spec PyProof.Rows L2 FL
local macro_rules
  | `(tactic| simp_arith only [$xs,*]) => `(tactic| simp (config := { implicitDefEqProofs := false }) only [tn_ok, oR_some, nx_ok, ev_var, ev_c, ev_bin, ev_kBin1, ev_kBin2, ev_un, ev_kUn, ev_asB, ev_kB, ev_asT, ev_kT, ev_tAnd2, ev_kAndT, ev_kAndF, ev_tOr2, ev_kOrT, ev_kOrF, ev_not, ev_kNot, ev_eAnd2, ev_kAndE, ev_kAndET, ev_kAndEF, ev_eOr2, ev_kOrE, ev_kOrET, ev_kOrEF, ev_eNot1, ev_kNotE, ev_kNotE2, ev_if, ev_kIfT, ev_kIfF, ev_aNil, ev_aCons, ev_kCons, ev_kCons2, ev_aStar, ev_kStar, ev_kStar2, ev_kStar3, ev_eTup, ev_kTup, ev_kTup2, ev_eLst, ev_kLst, ev_kLst2, ev_eNewL, ev_kNewL, ev_kNewL2, ev_newD, ev_callP, ev_kCallP, ev_call, ev_kCall, ev_kCall2, ev_oNone, ev_oSome, ev_kO, ev_kO2, ev_sl, ev_kSl, ev_kSl2, ev_kSl3, ev_sl3, ev_kT1, ev_kT2, ev_kT3, ev_kT4, ev_listRg, ev_kLR, ev_kLR2, ev_forM, ev_forMr, ev_forMl, ev_forMt, ev_forR, ev_meth, ev_kM, ev_kM2, ev_kM3, ev_meth0, ev_kM0, ev_chain, ev_kCh, ev_kCh2, ev_kCh3T, ev_kCh3F, ev_kCh4, ev_kLs, ev_kComp, ev_comp, ev_kRef, ev_compM, ev_kComp2, ev_comp2, ev_iSeq, ev_kIt, ev_iRange, ev_kRg, ev_enT, ev_enL, ev_iEnum, items_lst, items_tup, items_str, ev_true, ev_ret, ev_kRet, ev_expr, ev_kEx, ev_asg, ev_kAsg, ev_kNx, ev_seq, ev_kSeqN, ev_kSeqR, ev_kSeqB, ev_kSeqC, ev_ifS, ev_kIfST, ev_kIfSF, ev_for, ev_kFor, ev_next, ev_retN, ev_break, ev_cont, ev_par, ev_kPar, ev_par3, ev_kPar3, ev_gName, ev_gTup, ev_gsNil, ev_gsCons, ev_kGs, ev_gSub, ev_kSub, ev_kSub2, ev_kSub3, ev_kSub4, ev_mut, ev_kMu, ev_kMu2, ev_kMu3, ev_kMu4, ev_catM, ev_kCat, ev_kCat2, ev_catR, vw_non, vw_bl, vw_int, vw_str, vw_lst, vw_tup, vw_dct, vw_ref, vwO_lst, vwO_dct, tru_bl, tru_int, tru_lst, tru_tup, tru_non, add_int, add_lst, add_tup, add_str, sub_int, neg_int, gt_int, ge_int, lt_int, le_int, len_lst, len_tup, len_dct, len_str, int_int, tuple_lst, tuple_tup, list_lst, list_tup, sl_lst, sl_tup, is_non, isnt_non, non_bl, non_int, non_str, non_lst, non_tup, non_non, int_int?, ref_ref?, alt_tup, alt_lst, isi_int_non, isi_int_bl, isi_int_int, isi_int_str, isi_int_lst, isi_int_tup, isi_bool_non, isi_bool_bl, isi_bool_int, isi_bool_str, isi_bool_lst, isi_bool_tup, isi_str_non, isi_str_bl, isi_str_int, isi_str_str, isi_str_lst, isi_str_tup, isi_tuple_non, isi_tuple_bl, isi_tuple_int, isi_tuple_str, isi_tuple_lst, isi_tuple_tup, isi_list_non, isi_list_bl, isi_list_int, isi_list_str, isi_list_lst, isi_list_tup, isi_dict_non, isi_dict_bl, isi_dict_int, isi_dict_str, isi_dict_lst, isi_dict_tup, tyIn_lst2, tyD_lst, tyIn_tup2, tyD_tup, tyIn_str, tyD_str, tyIn_dct, tyD_dct, ev_cStep, ev_kC, ev_kC2T, ev_kC2F, ev_kSome, ev_cStep2, ev_kD, ev_kD2T, ev_kD2F, ev_kD3, ev_lStep, ev_kL, List.getElem?_cons_zero, List.getElem?_cons_succ, Option.join_some, Option.bind_some, Option.map_some, wipeE, List.set_cons_zero, List.set_cons_succ, List.length_cons, List.length_nil, List.map_cons, List.map_nil, gAll, gDef, List.cons_append, List.nil_append, if_true, if_false, Bool.not_true, Bool.not_false, Nat.zero_add, Nat.reduceAdd, Nat.reduceLeDiff, and_true, and_self, true_and, reduceIte, Bool.false_eq_true, $xs,*])
/-! ## pairs of slots -/
/-! ## a drawn deed -/
/-! ## an arrow with "rise" in the place of "spare" -/
def Deed.pl : Deed → Deed
  | .spare c n => .rise c n
  | w => w
def Arw.pl (a : Arw) : Arw := ⟨a.p, a.w.pl, a.q⟩
end SS
end
section
set_option Elab.async false
set_option linter.all false
set_option maxRecDepth 100000
set_option autoImplicit false
set_option maxHeartbeats 4000000
namespace SS
open PySem PySem.Spec PyProof.Rows L2 FL
/-! ## how long a shown text is at most -/
mutual
def sz : D → Nat
  | .non => 4
  | .int _ => 12
  | .str x => 10 * x.length + 2
  | .lst xs => szs xs + 3
  | .tup xs => szs xs + 3
  | _ => 0
def szs : List D → Nat
  | [] => 0
  | d :: ds => sz d + 2 + szs ds
end
mutual
def sm : D → Bool
  | .non => true
  | .int i => decide (i.natAbs < 10 ^ 10)
  | .str x => x.cps.toList.all fun c => decide (c < 1000)
  | .lst xs => sms xs
  | .tup xs => sms xs
  | _ => false
def sms : List D → Bool
  | [] => true
  | d :: ds => sm d && sms ds
end
theorem textFrom_le : ∀ (ts : List Str) (k : Nat) (acc : Str), (textFrom k acc ts).length ≤ acc.length + (ts.map fun t => t.length + 2).sum
  | [], k, acc => by show acc.length ≤ _; simp
  | t :: ts, k, acc => by
    have := textFrom_le ts (k + 1) (acc ++ (if k > 0 then ", " else "" : String) ++ t)
    have e : (acc ++ (if k > 0 then ", " else "" : String) ++ t).length ≤ acc.length + 2 + t.length := by
      rw [Str.length_append, Str.length_append]
      split
      · have : (Str.ofString ", ").length = 2 := by decide +kernel
        omega
      · have : (Str.ofString "").length = 0 := by decide +kernel
        omega
    show (textFrom (k + 1) _ ts).length ≤ _
    rw [List.map_cons, List.sum_cons]
    omega
theorem list_len (ts : List Str) : (listText ts).length ≤ (ts.map fun t => t.length + 2).sum + 3 := by
  unfold listText
  rw [Str.length_append]
  have := textFrom_le ts 0 "["
  have e1 : (Str.ofString "[").length = 1 := by decide +kernel
  have e2 : (Str.ofString "]").length = 1 := by decide +kernel
  omega
theorem sum_two : ∀ ts : List Str, (ts.map fun t => t.length + 2).sum = (ts.map (·.length)).sum + ts.length * 2
  | [] => rfl
  | t :: ts => by
    rw [List.map_cons, List.sum_cons, sum_two ts, List.map_cons, List.sum_cons, List.length_cons]
    omega
theorem tuple_len (ts : List Str) : (tupleText ts).length ≤ (ts.map fun t => t.length + 2).sum + 3 := by
  unfold tupleText
  rw [Str.length_append, Str.length_append, sum_two]
  have := StrLaws.join_length_le ", " ts
  have e1 : (Str.ofString "(").length = 1 := by decide +kernel
  have e3 : (Str.ofString ", ").length = 2 := by decide +kernel
  have e2 : (Str.ofString (if (ts.length == 1) = true then ",)" else ")")).length ≤ 2 := by
    split
    · have : (Str.ofString ",)").length = 2 := by decide +kernel
      omega
    · have : (Str.ofString ")").length = 1 := by decide +kernel
      omega
  rw [e3] at this
  omega
mutual
theorem shown_ok : ∀ d : D, nb d = true → sm d = true → (py d).showable = true ∧ (py d).shown.length ≤ sz d
  | .non, _, _ => ⟨rfl, by show (Str.ofString "None").length ≤ 4; decide +kernel⟩
  | .int i, _, h => by
    have hi : i.natAbs < 10 ^ 10 := of_decide_eq_true h
    refine ⟨?_, ?_⟩
    · show decide (i.natAbs.log2 < 1920) = true
      refine decide_eq_true ?_
      by_cases z : i.natAbs = 0
      · rw [z]; decide
      · exact (Nat.log2_lt z).mpr (Nat.lt_of_lt_of_le hi (by decide +kernel))
    · show (Str.ofString (toString i)).length ≤ 12
      rw [PySem.ofString_length]
      have := int_text_length_le10 (a := i) (k := 10) (by decide) hi
      omega
  | .str x, _, h => ⟨rfl, StrLaws.reprText_len x fun c hc => Nat.lt_of_lt_of_le (of_decide_eq_true (List.all_eq_true.mp h c hc)) (by decide)⟩
  | .lst xs, hn, h => by
    simp only [nb] at hn
    simp only [sm] at h
    obtain ⟨h1, h2⟩ := shown_oks xs hn h
    refine ⟨h1, ?_⟩
    show (listText (PyData.shownAll (pys xs))).length ≤ szs xs + 3
    exact Nat.le_trans (list_len _) (by omega)
  | .tup xs, hn, h => by
    simp only [nb] at hn
    simp only [sm] at h
    obtain ⟨h1, h2⟩ := shown_oks xs hn h
    refine ⟨h1, ?_⟩
    show (tupleText (PyData.shownAll (pys xs))).length ≤ szs xs + 3
    exact Nat.le_trans (tuple_len _) (by omega)
  | .bl _, h, _ => by simp [nb] at h
  | .dct _, h, _ => by simp [nb] at h
  | .fn _ _, h, _ => by simp [nb] at h
  | .obj _ _ _, h, _ => by simp [nb] at h
  | .ref _, h, _ => by simp [nb] at h
theorem shown_oks : ∀ ds : List D, nbs ds = true → sms ds = true → PyData.showableAll (pys ds) = true ∧ ((PyData.shownAll (pys ds)).map fun t => t.length + 2).sum ≤ szs ds
  | [], _, _ => ⟨rfl, Nat.le_refl _⟩
  | d :: ds, hn, h => by
    obtain ⟨a1, a2⟩ := Bool.and_eq_true_iff.mp (show (nb d && nbs ds) = true from hn)
    obtain ⟨b1, b2⟩ := Bool.and_eq_true_iff.mp (show (sm d && sms ds) = true from h)
    obtain ⟨c1, c2⟩ := shown_ok d a1 b1
    obtain ⟨d1, d2⟩ := shown_oks ds a2 b2
    refine ⟨?_, ?_⟩
    · show ((py d).showable && PyData.showableAll (pys ds)) = true
      rw [c1, d1]
      rfl
    · show (((py d).shown :: PyData.shownAll (pys ds)).map fun t => t.length + 2).sum ≤ sz d + 2 + szs ds
      rw [List.map_cons, List.sum_cons]
      omega
end
/-- small and at most so long -/
def Sz (n : Nat) (d : D) : Prop := sm d = true ∧ sz d ≤ n
theorem Sz.mono {n m : Nat} {d : D} (h : Sz n d) (hm : n ≤ m) : Sz m d := ⟨h.1, Nat.le_trans h.2 hm⟩
end SS
end
section
set_option Elab.async false
set_option linter.all false
set_option maxRecDepth 100000
set_option autoImplicit false
set_option maxHeartbeats 4000000
namespace SS
open PySem PySem.Spec PyProof.Rows L2 FL
local macro_rules
  | `(tactic| simp_arith only [$xs,*]) => `(tactic| simp (config := { implicitDefEqProofs := false }) only [tn_ok, oR_some, nx_ok, ev_var, ev_c, ev_bin, ev_kBin1, ev_kBin2, ev_un, ev_kUn, ev_asB, ev_kB, ev_asT, ev_kT, ev_tAnd2, ev_kAndT, ev_kAndF, ev_tOr2, ev_kOrT, ev_kOrF, ev_not, ev_kNot, ev_eAnd2, ev_kAndE, ev_kAndET, ev_kAndEF, ev_eOr2, ev_kOrE, ev_kOrET, ev_kOrEF, ev_eNot1, ev_kNotE, ev_kNotE2, ev_if, ev_kIfT, ev_kIfF, ev_aNil, ev_aCons, ev_kCons, ev_kCons2, ev_aStar, ev_kStar, ev_kStar2, ev_kStar3, ev_eTup, ev_kTup, ev_kTup2, ev_eLst, ev_kLst, ev_kLst2, ev_eNewL, ev_kNewL, ev_kNewL2, ev_newD, ev_callP, ev_kCallP, ev_call, ev_kCall, ev_kCall2, ev_oNone, ev_oSome, ev_kO, ev_kO2, ev_sl, ev_kSl, ev_kSl2, ev_kSl3, ev_sl3, ev_kT1, ev_kT2, ev_kT3, ev_kT4, ev_listRg, ev_kLR, ev_kLR2, ev_forM, ev_forMr, ev_forMl, ev_forMt, ev_forR, ev_meth, ev_kM, ev_kM2, ev_kM3, ev_meth0, ev_kM0, ev_chain, ev_kCh, ev_kCh2, ev_kCh3T, ev_kCh3F, ev_kCh4, ev_kLs, ev_kComp, ev_comp, ev_kRef, ev_compM, ev_kComp2, ev_comp2, ev_iSeq, ev_kIt, ev_iRange, ev_kRg, ev_enT, ev_enL, ev_iEnum, items_lst, items_tup, items_str, ev_true, ev_ret, ev_kRet, ev_expr, ev_kEx, ev_asg, ev_kAsg, ev_kNx, ev_seq, ev_kSeqN, ev_kSeqR, ev_kSeqB, ev_kSeqC, ev_ifS, ev_kIfST, ev_kIfSF, ev_for, ev_kFor, ev_next, ev_retN, ev_break, ev_cont, ev_par, ev_kPar, ev_par3, ev_kPar3, ev_gName, ev_gTup, ev_gsNil, ev_gsCons, ev_kGs, ev_gSub, ev_kSub, ev_kSub2, ev_kSub3, ev_kSub4, ev_mut, ev_kMu, ev_kMu2, ev_kMu3, ev_kMu4, ev_catM, ev_kCat, ev_kCat2, ev_catR, vw_non, vw_bl, vw_int, vw_str, vw_lst, vw_tup, vw_dct, vw_ref, vwO_lst, vwO_dct, tru_bl, tru_int, tru_lst, tru_tup, tru_non, add_int, add_lst, add_tup, add_str, sub_int, neg_int, gt_int, ge_int, lt_int, le_int, len_lst, len_tup, len_dct, len_str, int_int, tuple_lst, tuple_tup, list_lst, list_tup, sl_lst, sl_tup, is_non, isnt_non, non_bl, non_int, non_str, non_lst, non_tup, non_non, int_int?, ref_ref?, alt_tup, alt_lst, isi_int_non, isi_int_bl, isi_int_int, isi_int_str, isi_int_lst, isi_int_tup, isi_bool_non, isi_bool_bl, isi_bool_int, isi_bool_str, isi_bool_lst, isi_bool_tup, isi_str_non, isi_str_bl, isi_str_int, isi_str_str, isi_str_lst, isi_str_tup, isi_tuple_non, isi_tuple_bl, isi_tuple_int, isi_tuple_str, isi_tuple_lst, isi_tuple_tup, isi_list_non, isi_list_bl, isi_list_int, isi_list_str, isi_list_lst, isi_list_tup, isi_dict_non, isi_dict_bl, isi_dict_int, isi_dict_str, isi_dict_lst, isi_dict_tup, tyIn_lst2, tyD_lst, tyIn_tup2, tyD_tup, tyIn_str, tyD_str, tyIn_dct, tyD_dct, ev_cStep, ev_kC, ev_kC2T, ev_kC2F, ev_kSome, ev_cStep2, ev_kD, ev_kD2T, ev_kD2F, ev_kD3, ev_lStep, ev_kL, List.getElem?_cons_zero, List.getElem?_cons_succ, Option.join_some, Option.bind_some, Option.map_some, wipeE, List.set_cons_zero, List.set_cons_succ, List.length_cons, List.length_nil, List.map_cons, List.map_nil, gAll, gDef, List.cons_append, List.nil_append, if_true, if_false, Bool.not_true, Bool.not_false, Nat.zero_add, Nat.reduceAdd, Nat.reduceLeDiff, and_true, and_self, true_and, reduceIte, Bool.false_eq_true, $xs,*])
/-! ## one arrow more -/
end SS
end
section
set_option Elab.async false
set_option linter.all false
set_option maxRecDepth 100000
set_option autoImplicit false
set_option maxHeartbeats 4000000
namespace SS
open PySem PySem.Spec PyProof.Rows L2 FL
local macro_rules
  | `(tactic| simp_arith only [$xs,*]) => `(tactic| simp (config := { implicitDefEqProofs := false }) only [tn_ok, oR_some, nx_ok, ev_var, ev_c, ev_bin, ev_kBin1, ev_kBin2, ev_un, ev_kUn, ev_asB, ev_kB, ev_asT, ev_kT, ev_tAnd2, ev_kAndT, ev_kAndF, ev_tOr2, ev_kOrT, ev_kOrF, ev_not, ev_kNot, ev_eAnd2, ev_kAndE, ev_kAndET, ev_kAndEF, ev_eOr2, ev_kOrE, ev_kOrET, ev_kOrEF, ev_eNot1, ev_kNotE, ev_kNotE2, ev_if, ev_kIfT, ev_kIfF, ev_aNil, ev_aCons, ev_kCons, ev_kCons2, ev_aStar, ev_kStar, ev_kStar2, ev_kStar3, ev_eTup, ev_kTup, ev_kTup2, ev_eLst, ev_kLst, ev_kLst2, ev_eNewL, ev_kNewL, ev_kNewL2, ev_newD, ev_callP, ev_kCallP, ev_call, ev_kCall, ev_kCall2, ev_oNone, ev_oSome, ev_kO, ev_kO2, ev_sl, ev_kSl, ev_kSl2, ev_kSl3, ev_sl3, ev_kT1, ev_kT2, ev_kT3, ev_kT4, ev_listRg, ev_kLR, ev_kLR2, ev_forM, ev_forMr, ev_forMl, ev_forMt, ev_forR, ev_meth, ev_kM, ev_kM2, ev_kM3, ev_meth0, ev_kM0, ev_chain, ev_kCh, ev_kCh2, ev_kCh3T, ev_kCh3F, ev_kCh4, ev_kLs, ev_kComp, ev_comp, ev_kRef, ev_compM, ev_kComp2, ev_comp2, ev_iSeq, ev_kIt, ev_iRange, ev_kRg, ev_enT, ev_enL, ev_iEnum, items_lst, items_tup, items_str, ev_true, ev_ret, ev_kRet, ev_expr, ev_kEx, ev_asg, ev_kAsg, ev_kNx, ev_seq, ev_kSeqN, ev_kSeqR, ev_kSeqB, ev_kSeqC, ev_ifS, ev_kIfST, ev_kIfSF, ev_for, ev_kFor, ev_next, ev_retN, ev_break, ev_cont, ev_par, ev_kPar, ev_par3, ev_kPar3, ev_gName, ev_gTup, ev_gsNil, ev_gsCons, ev_kGs, ev_gSub, ev_kSub, ev_kSub2, ev_kSub3, ev_kSub4, ev_mut, ev_kMu, ev_kMu2, ev_kMu3, ev_kMu4, ev_catM, ev_kCat, ev_kCat2, ev_catR, vw_non, vw_bl, vw_int, vw_str, vw_lst, vw_tup, vw_dct, vw_ref, vwO_lst, vwO_dct, tru_bl, tru_int, tru_lst, tru_tup, tru_non, add_int, add_lst, add_tup, add_str, sub_int, neg_int, gt_int, ge_int, lt_int, le_int, len_lst, len_tup, len_dct, len_str, int_int, tuple_lst, tuple_tup, list_lst, list_tup, sl_lst, sl_tup, is_non, isnt_non, non_bl, non_int, non_str, non_lst, non_tup, non_non, int_int?, ref_ref?, alt_tup, alt_lst, isi_int_non, isi_int_bl, isi_int_int, isi_int_str, isi_int_lst, isi_int_tup, isi_bool_non, isi_bool_bl, isi_bool_int, isi_bool_str, isi_bool_lst, isi_bool_tup, isi_str_non, isi_str_bl, isi_str_int, isi_str_str, isi_str_lst, isi_str_tup, isi_tuple_non, isi_tuple_bl, isi_tuple_int, isi_tuple_str, isi_tuple_lst, isi_tuple_tup, isi_list_non, isi_list_bl, isi_list_int, isi_list_str, isi_list_lst, isi_list_tup, isi_dict_non, isi_dict_bl, isi_dict_int, isi_dict_str, isi_dict_lst, isi_dict_tup, tyIn_lst2, tyD_lst, tyIn_tup2, tyD_tup, tyIn_str, tyD_str, tyIn_dct, tyD_dct, ev_cStep, ev_kC, ev_kC2T, ev_kC2F, ev_kSome, ev_cStep2, ev_kD, ev_kD2T, ev_kD2F, ev_kD3, ev_lStep, ev_kL, List.getElem?_cons_zero, List.getElem?_cons_succ, Option.join_some, Option.bind_some, Option.map_some, wipeE, List.set_cons_zero, List.set_cons_succ, List.length_cons, List.length_nil, List.map_cons, List.map_nil, gAll, gDef, List.cons_append, List.nil_append, if_true, if_false, Bool.not_true, Bool.not_false, Nat.zero_add, Nat.reduceAdd, Nat.reduceLeDiff, and_true, and_self, true_and, reduceIte, Bool.false_eq_true, $xs,*])
/-! ## a drawn program -/
def cutC (cs : List Nat) (k : Nat) : Str := ⟨(cs.take k).toArray⟩
theorem sl_str {x : Str} {cs : List Nat} (h : x.cps.toList = cs) (hl : x.length ≤ 1000000) (k : Nat) : slD (.str x) none (some (k : Nat)) = some (.str (cutC cs k)) := by
  have e : cutS x none (some (k : Nat)) = cutC cs k := by
    unfold cutS cutC
    have lx : x.length = cs.length := by rw [← h]; rfl
    rw [HT.sIx_none, show HT.sIx x.length x.length (some ((k : Nat) : Int)) = min k x.length from HT.sIx_nat x.length x.length k, List.drop_zero, Nat.sub_zero, h, lx]
    congr 2
    rw [List.take_eq_take_iff]
    omega
  simp only [slD, alt, on1, D.lst?, D.tup?, D.str?, e, cap_ok hl]
end SS
end
section
set_option Elab.async false
set_option linter.all false
set_option maxRecDepth 100000
set_option autoImplicit false
set_option maxHeartbeats 4000000
namespace SS
open PySem PySem.Spec PyProof.Rows L2 FL
local macro_rules
  | `(tactic| simp_arith only [$xs,*]) => `(tactic| simp (config := { implicitDefEqProofs := false }) only [tn_ok, oR_some, nx_ok, ev_var, ev_c, ev_bin, ev_kBin1, ev_kBin2, ev_un, ev_kUn, ev_asB, ev_kB, ev_asT, ev_kT, ev_tAnd2, ev_kAndT, ev_kAndF, ev_tOr2, ev_kOrT, ev_kOrF, ev_not, ev_kNot, ev_eAnd2, ev_kAndE, ev_kAndET, ev_kAndEF, ev_eOr2, ev_kOrE, ev_kOrET, ev_kOrEF, ev_eNot1, ev_kNotE, ev_kNotE2, ev_if, ev_kIfT, ev_kIfF, ev_aNil, ev_aCons, ev_kCons, ev_kCons2, ev_aStar, ev_kStar, ev_kStar2, ev_kStar3, ev_eTup, ev_kTup, ev_kTup2, ev_eLst, ev_kLst, ev_kLst2, ev_eNewL, ev_kNewL, ev_kNewL2, ev_newD, ev_callP, ev_kCallP, ev_call, ev_kCall, ev_kCall2, ev_oNone, ev_oSome, ev_kO, ev_kO2, ev_sl, ev_kSl, ev_kSl2, ev_kSl3, ev_sl3, ev_kT1, ev_kT2, ev_kT3, ev_kT4, ev_listRg, ev_kLR, ev_kLR2, ev_forM, ev_forMr, ev_forMl, ev_forMt, ev_forR, ev_meth, ev_kM, ev_kM2, ev_kM3, ev_meth0, ev_kM0, ev_chain, ev_kCh, ev_kCh2, ev_kCh3T, ev_kCh3F, ev_kCh4, ev_kLs, ev_kComp, ev_comp, ev_kRef, ev_compM, ev_kComp2, ev_comp2, ev_iSeq, ev_kIt, ev_iRange, ev_kRg, ev_enT, ev_enL, ev_iEnum, items_lst, items_tup, items_str, ev_true, ev_ret, ev_kRet, ev_expr, ev_kEx, ev_asg, ev_kAsg, ev_kNx, ev_seq, ev_kSeqN, ev_kSeqR, ev_kSeqB, ev_kSeqC, ev_ifS, ev_kIfST, ev_kIfSF, ev_for, ev_kFor, ev_next, ev_retN, ev_break, ev_cont, ev_par, ev_kPar, ev_par3, ev_kPar3, ev_gName, ev_gTup, ev_gsNil, ev_gsCons, ev_kGs, ev_gSub, ev_kSub, ev_kSub2, ev_kSub3, ev_kSub4, ev_mut, ev_kMu, ev_kMu2, ev_kMu3, ev_kMu4, ev_catM, ev_kCat, ev_kCat2, ev_catR, vw_non, vw_bl, vw_int, vw_str, vw_lst, vw_tup, vw_dct, vw_ref, vwO_lst, vwO_dct, tru_bl, tru_int, tru_lst, tru_tup, tru_non, add_int, add_lst, add_tup, add_str, sub_int, neg_int, gt_int, ge_int, lt_int, le_int, len_lst, len_tup, len_dct, len_str, int_int, tuple_lst, tuple_tup, list_lst, list_tup, sl_lst, sl_tup, is_non, isnt_non, non_bl, non_int, non_str, non_lst, non_tup, non_non, int_int?, ref_ref?, alt_tup, alt_lst, isi_int_non, isi_int_bl, isi_int_int, isi_int_str, isi_int_lst, isi_int_tup, isi_bool_non, isi_bool_bl, isi_bool_int, isi_bool_str, isi_bool_lst, isi_bool_tup, isi_str_non, isi_str_bl, isi_str_int, isi_str_str, isi_str_lst, isi_str_tup, isi_tuple_non, isi_tuple_bl, isi_tuple_int, isi_tuple_str, isi_tuple_lst, isi_tuple_tup, isi_list_non, isi_list_bl, isi_list_int, isi_list_str, isi_list_lst, isi_list_tup, isi_dict_non, isi_dict_bl, isi_dict_int, isi_dict_str, isi_dict_lst, isi_dict_tup, tyIn_lst2, tyD_lst, tyIn_tup2, tyD_tup, tyIn_str, tyD_str, tyIn_dct, tyD_dct, ev_cStep, ev_kC, ev_kC2T, ev_kC2F, ev_kSome, ev_cStep2, ev_kD, ev_kD2T, ev_kD2F, ev_kD3, ev_lStep, ev_kL, List.getElem?_cons_zero, List.getElem?_cons_succ, Option.join_some, Option.bind_some, Option.map_some, wipeE, List.set_cons_zero, List.set_cons_succ, List.length_cons, List.length_nil, List.map_cons, List.map_nil, gAll, gDef, List.cons_append, List.nil_append, if_true, if_false, Bool.not_true, Bool.not_false, Nat.zero_add, Nat.reduceAdd, Nat.reduceLeDiff, and_true, and_self, true_and, reduceIte, Bool.false_eq_true, $xs,*])
/-! ## what the laws of runs share -/
end SS
end
section
set_option Elab.async false
set_option linter.all false
set_option maxRecDepth 100000
set_option autoImplicit false
set_option maxHeartbeats 4000000
namespace SS
open PySem PySem.Spec PyProof.Rows L2 FL
local macro_rules
  | `(tactic| simp_arith only [$xs,*]) => `(tactic| simp (config := { implicitDefEqProofs := false }) only [tn_ok, oR_some, nx_ok, ev_var, ev_c, ev_bin, ev_kBin1, ev_kBin2, ev_un, ev_kUn, ev_asB, ev_kB, ev_asT, ev_kT, ev_tAnd2, ev_kAndT, ev_kAndF, ev_tOr2, ev_kOrT, ev_kOrF, ev_not, ev_kNot, ev_eAnd2, ev_kAndE, ev_kAndET, ev_kAndEF, ev_eOr2, ev_kOrE, ev_kOrET, ev_kOrEF, ev_eNot1, ev_kNotE, ev_kNotE2, ev_if, ev_kIfT, ev_kIfF, ev_aNil, ev_aCons, ev_kCons, ev_kCons2, ev_aStar, ev_kStar, ev_kStar2, ev_kStar3, ev_eTup, ev_kTup, ev_kTup2, ev_eLst, ev_kLst, ev_kLst2, ev_eNewL, ev_kNewL, ev_kNewL2, ev_newD, ev_callP, ev_kCallP, ev_call, ev_kCall, ev_kCall2, ev_oNone, ev_oSome, ev_kO, ev_kO2, ev_sl, ev_kSl, ev_kSl2, ev_kSl3, ev_sl3, ev_kT1, ev_kT2, ev_kT3, ev_kT4, ev_listRg, ev_kLR, ev_kLR2, ev_forM, ev_forMr, ev_forMl, ev_forMt, ev_forR, ev_meth, ev_kM, ev_kM2, ev_kM3, ev_meth0, ev_kM0, ev_chain, ev_kCh, ev_kCh2, ev_kCh3T, ev_kCh3F, ev_kCh4, ev_kLs, ev_kComp, ev_comp, ev_kRef, ev_compM, ev_kComp2, ev_comp2, ev_iSeq, ev_kIt, ev_iRange, ev_kRg, ev_enT, ev_enL, ev_iEnum, items_lst, items_tup, items_str, ev_true, ev_ret, ev_kRet, ev_expr, ev_kEx, ev_asg, ev_kAsg, ev_kNx, ev_seq, ev_kSeqN, ev_kSeqR, ev_kSeqB, ev_kSeqC, ev_ifS, ev_kIfST, ev_kIfSF, ev_for, ev_kFor, ev_next, ev_retN, ev_break, ev_cont, ev_par, ev_kPar, ev_par3, ev_kPar3, ev_gName, ev_gTup, ev_gsNil, ev_gsCons, ev_kGs, ev_gSub, ev_kSub, ev_kSub2, ev_kSub3, ev_kSub4, ev_mut, ev_kMu, ev_kMu2, ev_kMu3, ev_kMu4, ev_catM, ev_kCat, ev_kCat2, ev_catR, vw_non, vw_bl, vw_int, vw_str, vw_lst, vw_tup, vw_dct, vw_ref, vwO_lst, vwO_dct, tru_bl, tru_int, tru_lst, tru_tup, tru_non, add_int, add_lst, add_tup, add_str, sub_int, neg_int, gt_int, ge_int, lt_int, le_int, len_lst, len_tup, len_dct, len_str, int_int, tuple_lst, tuple_tup, list_lst, list_tup, sl_lst, sl_tup, is_non, isnt_non, non_bl, non_int, non_str, non_lst, non_tup, non_non, int_int?, ref_ref?, alt_tup, alt_lst, isi_int_non, isi_int_bl, isi_int_int, isi_int_str, isi_int_lst, isi_int_tup, isi_bool_non, isi_bool_bl, isi_bool_int, isi_bool_str, isi_bool_lst, isi_bool_tup, isi_str_non, isi_str_bl, isi_str_int, isi_str_str, isi_str_lst, isi_str_tup, isi_tuple_non, isi_tuple_bl, isi_tuple_int, isi_tuple_str, isi_tuple_lst, isi_tuple_tup, isi_list_non, isi_list_bl, isi_list_int, isi_list_str, isi_list_lst, isi_list_tup, isi_dict_non, isi_dict_bl, isi_dict_int, isi_dict_str, isi_dict_lst, isi_dict_tup, tyIn_lst2, tyD_lst, tyIn_tup2, tyD_tup, tyIn_str, tyD_str, tyIn_dct, tyD_dct, ev_cStep, ev_kC, ev_kC2T, ev_kC2F, ev_kSome, ev_cStep2, ev_kD, ev_kD2T, ev_kD2F, ev_kD3, ev_lStep, ev_kL, List.getElem?_cons_zero, List.getElem?_cons_succ, Option.join_some, Option.bind_some, Option.map_some, wipeE, List.set_cons_zero, List.set_cons_succ, List.length_cons, List.length_nil, List.map_cons, List.map_nil, gAll, gDef, List.cons_append, List.nil_append, if_true, if_false, Bool.not_true, Bool.not_false, Nat.zero_add, Nat.reduceAdd, Nat.reduceLeDiff, and_true, and_self, true_and, reduceIte, Bool.false_eq_true, $xs,*])
/-! ## looks -/
/-! ## numbers stay small -/
/-! ## what k20 asks at one moment -/
end SS
end
section
set_option Elab.async false
set_option linter.all false
set_option maxRecDepth 100000
set_option autoImplicit false
set_option maxHeartbeats 4000000
namespace SS
open PySem PySem.Spec PyProof.Rows L2 FL
/-! ## loops over a range, by an invariant -/
theorem loopD_range' {b : FGx} {body : FSx} (I : Nat → FL.Env → Sto → Prop) (n : Nat) (step : ∀ (m : Nat) (r : FL.Env) (S : Sto), m < n → I m r S → ∃ r' S', lStep b body (.int (m : Nat)) r S = .ok (.nx r') S' ∧ I (m + 1) r' S') :
    ∀ (k m : Nat) (r : FL.Env) (S : Sto), m + k = n → I m r S → ∃ r' S', loopD b body ((List.range' m k).map fun i : Nat => D.int (i : Nat)) r S = .ok (.nx r') S' ∧ I n r' S'
  | 0, m, r, S, h, i => ⟨r, S, rfl, by rw [← h]; exact i⟩
  | k + 1, m, r, S, h, i => by
    obtain ⟨r1, S1, e1, i1⟩ := step m r S (by omega) i
    obtain ⟨r2, S2, e2, i2⟩ := loopD_range' I n step k (m + 1) r1 S1 (by omega) i1
    refine ⟨r2, S2, ?_, i2⟩
    rw [List.range'_succ, List.map_cons, loopD_step e1]
    exact e2
theorem loopD_range {b : FGx} {body : FSx} (I : Nat → FL.Env → Sto → Prop) (n : Nat) (r : FL.Env) (S : Sto) (i : I 0 r S) (step : ∀ (m : Nat) (r : FL.Env) (S : Sto), m < n → I m r S → ∃ r' S', lStep b body (.int (m : Nat)) r S = .ok (.nx r') S' ∧ I (m + 1) r' S') :
    ∃ r' S', loopD b body ((List.range n).map fun i : Nat => D.int (i : Nat)) r S = .ok (.nx r') S' ∧ I n r' S' := by
  rw [List.range_eq_range']
  exact loopD_range' I n step n 0 r S (by omega) i
theorem cut_take' (xs : List D) (i : Nat) : cutL xs none (some (i : Int)) = xs.take i := by
  unfold cutL
  rw [HT.sIx_none, show HT.sIx xs.length xs.length (some (i : Int)) = min i xs.length from HT.sIx_nat xs.length xs.length i, List.drop_zero, Nat.sub_zero]
  rcases Nat.le_total i xs.length with h | h
  · rw [Nat.min_eq_left h]
  · rw [Nat.min_eq_right h, List.take_of_length_le (Nat.le_refl _), List.take_of_length_le h]
theorem cut_drop' (xs : List D) (i : Nat) : cutL xs (some (i : Int)) none = xs.drop i := by
  unfold cutL
  rw [show HT.sIx xs.length 0 (some (i : Int)) = min i xs.length from HT.sIx_nat xs.length 0 i, HT.sIx_none]
  rcases Nat.le_total i xs.length with h | h
  · rw [Nat.min_eq_left h]
    exact List.take_of_length_le (by simp)
  · rw [Nat.min_eq_right h, List.drop_of_length_le h, List.drop_of_length_le (Nat.le_refl _)]
    simp
/-! ## loops that draw -/
/-! ## plain data with truth values -/
mutual
def np : D → Bool
  | .non => true
  | .bl _ => true
  | .int _ => true
  | .str _ => true
  | .lst xs => nps xs
  | .tup xs => nps xs
  | _ => false
def nps : List D → Bool
  | [] => true
  | d :: ds => np d && nps ds
end
mutual
theorem toPy_np : ∀ d : D, np d = true → toPy d = some (py d)
  | .non, _ => rfl
  | .bl _, _ => rfl
  | .int _, _ => rfl
  | .str _, _ => rfl
  | .lst xs, h => by simp only [np] at h; simp only [toPy, py, toPys_np xs h, Option.map_some]
  | .tup xs, h => by simp only [np] at h; simp only [toPy, py, toPys_np xs h, Option.map_some]
  | .dct _, h => by simp [np] at h
  | .fn _ _, h => by simp [np] at h
  | .obj _ _ _, h => by simp [np] at h
  | .ref _, h => by simp [np] at h
theorem toPys_np : ∀ ds : List D, nps ds = true → toPys ds = some (pys ds)
  | [], _ => rfl
  | d :: ds, h => by
    obtain ⟨h1, h2⟩ := Bool.and_eq_true_iff.mp (show (np d && nps ds) = true from h)
    simp only [toPys, pys, toPy_np d h1, toPys_np ds h2]
end
mutual
theorem dep_np : ∀ d : D, np d = true → (py d).depth = dep d
  | .non, _ => rfl
  | .bl _, _ => rfl
  | .int _, _ => rfl
  | .str _, _ => rfl
  | .lst xs, h => by simp only [np] at h; simp only [py, PyData.depth, dep, deps_np xs h]
  | .tup xs, h => by simp only [np] at h; simp only [py, PyData.depth, dep, deps_np xs h]
  | .dct _, h => by simp [np] at h
  | .fn _ _, h => by simp [np] at h
  | .obj _ _ _, h => by simp [np] at h
  | .ref _, h => by simp [np] at h
theorem deps_np : ∀ ds : List D, nps ds = true → PyData.depthAll (pys ds) = deps ds
  | [], _ => rfl
  | d :: ds, h => by
    obtain ⟨h1, h2⟩ := Bool.and_eq_true_iff.mp (show (np d && nps ds) = true from h)
    simp only [pys, PyData.depthAll, deps, dep_np d h1, deps_np ds h2]
end
mutual
def szb : D → Nat
  | .non => 5
  | .bl _ => 5
  | .int _ => 62
  | .str x => 10 * x.length + 2
  | .lst xs => szbs xs + 3
  | .tup xs => szbs xs + 3
  | _ => 0
def szbs : List D → Nat
  | [] => 0
  | d :: ds => szb d + 2 + szbs ds
end
mutual
def smb : D → Bool
  | .non => true
  | .bl _ => true
  | .int i => decide (i.natAbs < 10 ^ 60)
  | .str x => x.cps.toList.all fun c => decide (c < 1000)
  | .lst xs => smbs xs
  | .tup xs => smbs xs
  | _ => false
def smbs : List D → Bool
  | [] => true
  | d :: ds => smb d && smbs ds
end
mutual
theorem shownb_ok : ∀ d : D, np d = true → smb d = true → (py d).showable = true ∧ (py d).shown.length ≤ szb d
  | .non, _, _ => ⟨rfl, by show (Str.ofString "None").length ≤ 5; decide +kernel⟩
  | .bl true, _, _ => ⟨rfl, by show (Str.ofString "True").length ≤ 5; decide +kernel⟩
  | .bl false, _, _ => ⟨rfl, by show (Str.ofString "False").length ≤ 5; decide +kernel⟩
  | .int i, _, h => by
    have hi : i.natAbs < 10 ^ 60 := of_decide_eq_true h
    refine ⟨?_, ?_⟩
    · show decide (i.natAbs.log2 < 1920) = true
      refine decide_eq_true ?_
      by_cases z : i.natAbs = 0
      · rw [z]; decide
      · exact (Nat.log2_lt z).mpr (Nat.lt_of_lt_of_le hi (by decide +kernel))
    · show (Str.ofString (toString i)).length ≤ 62
      rw [PySem.ofString_length]
      have := int_text_length_le10 (a := i) (k := 60) (by decide) hi
      omega
  | .str x, _, h => ⟨rfl, StrLaws.reprText_len x fun c hc => Nat.lt_of_lt_of_le (of_decide_eq_true (List.all_eq_true.mp h c hc)) (by decide)⟩
  | .lst xs, hn, h => by
    simp only [np] at hn
    simp only [smb] at h
    obtain ⟨h1, h2⟩ := shownb_oks xs hn h
    refine ⟨h1, ?_⟩
    show (listText (PyData.shownAll (pys xs))).length ≤ szbs xs + 3
    exact Nat.le_trans (list_len _) (by omega)
  | .tup xs, hn, h => by
    simp only [np] at hn
    simp only [smb] at h
    obtain ⟨h1, h2⟩ := shownb_oks xs hn h
    refine ⟨h1, ?_⟩
    show (tupleText (PyData.shownAll (pys xs))).length ≤ szbs xs + 3
    exact Nat.le_trans (tuple_len _) (by omega)
  | .dct _, h, _ => by simp [np] at h
  | .fn _ _, h, _ => by simp [np] at h
  | .obj _ _ _, h, _ => by simp [np] at h
  | .ref _, h, _ => by simp [np] at h
theorem shownb_oks : ∀ ds : List D, nps ds = true → smbs ds = true → PyData.showableAll (pys ds) = true ∧ ((PyData.shownAll (pys ds)).map fun t => t.length + 2).sum ≤ szbs ds
  | [], _, _ => ⟨rfl, Nat.le_refl _⟩
  | d :: ds, hn, h => by
    obtain ⟨a1, a2⟩ := Bool.and_eq_true_iff.mp (show (np d && nps ds) = true from hn)
    obtain ⟨b1, b2⟩ := Bool.and_eq_true_iff.mp (show (smb d && smbs ds) = true from h)
    obtain ⟨c1, c2⟩ := shownb_ok d a1 b1
    obtain ⟨d1, d2⟩ := shownb_oks ds a2 b2
    refine ⟨?_, ?_⟩
    · show ((py d).showable && PyData.showableAll (pys ds)) = true
      rw [c1, d1]
      rfl
    · show (((py d).shown :: PyData.shownAll (pys ds)).map fun t => t.length + 2).sum ≤ szb d + 2 + szbs ds
      rw [List.map_cons, List.sum_cons]
      omega
end
/-- plain, of depth at most k, small, shown in at most n signs -/
structure Rp (k n : Nat) (d : D) : Prop where
  np : np d = true
  dp : dep d ≤ k
  sm : smb d = true
  sz : szb d ≤ n
theorem Rp.mono {k n k' n' : Nat} {d : D} (h : Rp k n d) (hk : k ≤ k') (hn : n ≤ n') : Rp k' n' d := ⟨h.np, Nat.le_trans h.dp hk, h.sm, Nat.le_trans h.sz hn⟩
theorem reprb_ok {k n : Nat} {d : D} (h : Rp k n d) (hk : k ≤ 64) (hn : n ≤ 1000000) : reprD [d] = some (.str (py d).shown) := by
  obtain ⟨h1, h2⟩ := shownb_ok d h.np h.sm
  have : pyD d = some (py d) := by
    unfold pyD
    rw [toPy_np d h.np]
    simp only [Option.bind_some, dep_np d h.np]
    rw [if_pos (Nat.le_trans h.dp hk)]
  simp only [reprD, one, this, Option.bind_some, reprP]
  rw [if_pos ⟨h1, by have := h.sz; omega⟩]
theorem rp_non (k : Nat) : Rp k 62 .non := ⟨rfl, by simp [dep], rfl, by simp [szb]⟩
theorem rp_int (k : Nat) {i : Int} (h : i.natAbs < 10 ^ 60) : Rp k 62 (.int i) := ⟨rfl, by simp [dep], decide_eq_true h, by simp [szb]⟩
theorem nps_iff : ∀ ds : List D, nps ds = true ↔ ∀ d ∈ ds, np d = true
  | [] => by simp [nps]
  | d :: ds => by simp [nps, nps_iff ds]
theorem smbs_iff : ∀ ds : List D, smbs ds = true ↔ ∀ d ∈ ds, smb d = true
  | [] => by simp [smbs]
  | d :: ds => by simp [smbs, smbs_iff ds]
theorem szbs_le (n : Nat) : ∀ ds : List D, (∀ d ∈ ds, szb d ≤ n) → szbs ds ≤ ds.length * (n + 2)
  | [], _ => by simp [szbs]
  | d :: ds, h => by
    have h1 := h d List.mem_cons_self
    have h2 := szbs_le n ds fun y hy => h y (List.mem_cons_of_mem _ hy)
    rw [szbs, List.length_cons, Nat.succ_mul]
    omega
theorem rp_seq {k n m : Nat} {ds : List D} (h : ∀ d ∈ ds, Rp k n d) (hm : ds.length ≤ m) : Rp (k + 1) (m * (n + 2) + 3) (.lst ds) ∧ Rp (k + 1) (m * (n + 2) + 3) (.tup ds) := by
  have a := (nps_iff ds).mpr fun d hd => (h d hd).np
  have b := (smbs_iff ds).mpr fun d hd => (h d hd).sm
  have c := szbs_le n ds fun d hd => (h d hd).sz
  have e : deps ds ≤ k := (deps_le ds).mpr fun d hd => (h d hd).dp
  have f : ds.length * (n + 2) ≤ m * (n + 2) := Nat.mul_le_mul_right _ hm
  refine ⟨⟨by simp only [SS.np]; exact a, by simp only [dep]; omega, by simp only [smb]; exact b, by simp only [szb]; omega⟩, ⟨by simp only [SS.np]; exact a, by simp only [dep]; omega, by simp only [smb]; exact b, by simp only [szb]; omega⟩⟩
theorem rp_map {α : Type} {k n m : Nat} (f : α → D) {xs : List α} (h : ∀ x ∈ xs, Rp k n (f x)) (hm : xs.length ≤ m) : Rp (k + 1) (m * (n + 2) + 3) (.lst (xs.map f)) ∧ Rp (k + 1) (m * (n + 2) + 3) (.tup (xs.map f)) :=
  rp_seq (fun d hd => by
    obtain ⟨x, hx, rfl⟩ := List.mem_map.mp hd
    exact h x hx) (by rw [List.length_map]; exact hm)
end SS
end
section
set_option Elab.async false
set_option linter.all false
set_option maxRecDepth 100000
set_option autoImplicit false
set_option maxHeartbeats 4000000
namespace SS
open PySem PySem.Spec PyProof.Rows L2 FL
local macro_rules
  | `(tactic| simp_arith only [$xs,*]) => `(tactic| simp (config := { implicitDefEqProofs := false }) only [tn_ok, oR_some, nx_ok, ev_var, ev_c, ev_bin, ev_kBin1, ev_kBin2, ev_un, ev_kUn, ev_asB, ev_kB, ev_asT, ev_kT, ev_tAnd2, ev_kAndT, ev_kAndF, ev_tOr2, ev_kOrT, ev_kOrF, ev_not, ev_kNot, ev_eAnd2, ev_kAndE, ev_kAndET, ev_kAndEF, ev_eOr2, ev_kOrE, ev_kOrET, ev_kOrEF, ev_eNot1, ev_kNotE, ev_kNotE2, ev_if, ev_kIfT, ev_kIfF, ev_aNil, ev_aCons, ev_kCons, ev_kCons2, ev_aStar, ev_kStar, ev_kStar2, ev_kStar3, ev_eTup, ev_kTup, ev_kTup2, ev_eLst, ev_kLst, ev_kLst2, ev_eNewL, ev_kNewL, ev_kNewL2, ev_newD, ev_callP, ev_kCallP, ev_call, ev_kCall, ev_kCall2, ev_oNone, ev_oSome, ev_kO, ev_kO2, ev_sl, ev_kSl, ev_kSl2, ev_kSl3, ev_sl3, ev_kT1, ev_kT2, ev_kT3, ev_kT4, ev_listRg, ev_kLR, ev_kLR2, ev_forM, ev_forMr, ev_forMl, ev_forMt, ev_forR, ev_meth, ev_kM, ev_kM2, ev_kM3, ev_meth0, ev_kM0, ev_chain, ev_kCh, ev_kCh2, ev_kCh3T, ev_kCh3F, ev_kCh4, ev_kLs, ev_kComp, ev_comp, ev_kRef, ev_compM, ev_kComp2, ev_comp2, ev_iSeq, ev_kIt, ev_iRange, ev_kRg, ev_enT, ev_enL, ev_iEnum, items_lst, items_tup, items_str, ev_true, ev_ret, ev_kRet, ev_expr, ev_kEx, ev_asg, ev_kAsg, ev_kNx, ev_seq, ev_kSeqN, ev_kSeqR, ev_kSeqB, ev_kSeqC, ev_ifS, ev_kIfST, ev_kIfSF, ev_for, ev_kFor, ev_next, ev_retN, ev_break, ev_cont, ev_par, ev_kPar, ev_par3, ev_kPar3, ev_gName, ev_gTup, ev_gsNil, ev_gsCons, ev_kGs, ev_gSub, ev_kSub, ev_kSub2, ev_kSub3, ev_kSub4, ev_mut, ev_kMu, ev_kMu2, ev_kMu3, ev_kMu4, ev_catM, ev_kCat, ev_kCat2, ev_catR, vw_non, vw_bl, vw_int, vw_str, vw_lst, vw_tup, vw_dct, vw_ref, vwO_lst, vwO_dct, tru_bl, tru_int, tru_lst, tru_tup, tru_non, add_int, add_lst, add_tup, add_str, sub_int, neg_int, gt_int, ge_int, lt_int, le_int, len_lst, len_tup, len_dct, len_str, int_int, tuple_lst, tuple_tup, list_lst, list_tup, sl_lst, sl_tup, is_non, isnt_non, non_bl, non_int, non_str, non_lst, non_tup, non_non, int_int?, ref_ref?, alt_tup, alt_lst, isi_int_non, isi_int_bl, isi_int_int, isi_int_str, isi_int_lst, isi_int_tup, isi_bool_non, isi_bool_bl, isi_bool_int, isi_bool_str, isi_bool_lst, isi_bool_tup, isi_str_non, isi_str_bl, isi_str_int, isi_str_str, isi_str_lst, isi_str_tup, isi_tuple_non, isi_tuple_bl, isi_tuple_int, isi_tuple_str, isi_tuple_lst, isi_tuple_tup, isi_list_non, isi_list_bl, isi_list_int, isi_list_str, isi_list_lst, isi_list_tup, isi_dict_non, isi_dict_bl, isi_dict_int, isi_dict_str, isi_dict_lst, isi_dict_tup, tyIn_lst2, tyD_lst, tyIn_tup2, tyD_tup, tyIn_str, tyD_str, tyIn_dct, tyD_dct, ev_cStep, ev_kC, ev_kC2T, ev_kC2F, ev_kSome, ev_cStep2, ev_kD, ev_kD2T, ev_kD2F, ev_kD3, ev_lStep, ev_kL, List.getElem?_cons_zero, List.getElem?_cons_succ, Option.join_some, Option.bind_some, Option.map_some, wipeE, List.set_cons_zero, List.set_cons_succ, List.length_cons, List.length_nil, List.map_cons, List.map_nil, gAll, gDef, List.cons_append, List.nil_append, if_true, if_false, Bool.not_true, Bool.not_false, Nat.zero_add, Nat.reduceAdd, Nat.reduceLeDiff, and_true, and_self, true_and, reduceIte, Bool.false_eq_true, $xs,*])
/-! ## while, turn by turn -/
theorem whileN_more {t : FTx} {b : FSx} : ∀ (n : Nat) (r : FL.Env) (S : Sto), whileN t b n r S ≠ .no → whileN t b (n + 1) r S = whileN t b n r S
  | 0, r, S, h => absurd rfl h
  | n + 1, r, S, h => by
    unfold whileN at h ⊢
    simp only [bnd] at h ⊢
    cases ht : t r S with
    | no => rfl
    | ex x S1 => rfl
    | ok k S1 =>
      rw [ht] at h
      simp only at h ⊢
      cases k with
      | false => rfl
      | true =>
        simp only [if_true, bnd] at h ⊢
        cases hb : b r S1 with
        | no => rfl
        | ex x S2 => rfl
        | ok fl S2 =>
          rw [hb] at h
          simp only at h ⊢
          cases fl with
          | nx r' => exact whileN_more n r' S2 h
          | ct r' => exact whileN_more n r' S2 h
          | bk r' => rfl
          | rt v => rfl
theorem whileN_le {t : FTx} {b : FSx} {n : Nat} {r : FL.Env} {S : Sto} (h : whileN t b n r S ≠ .no) : ∀ k, whileN t b (n + k) r S = whileN t b n r S
  | 0 => rfl
  | k + 1 => by
    have := whileN_le h k
    rw [← Nat.add_assoc, whileN_more (n + k) r S (by rw [this]; exact h), this]
theorem sWhile_eq {t : FTx} {b : FSx} {n : Nat} {r : FL.Env} {S : Sto} (h : whileN t b n r S ≠ .no) : sWhile t b r S = whileN t b n r S := by
  have ex : ∃ n, whileN t b n r S ≠ .no := ⟨n, h⟩
  unfold sWhile
  rw [dif_pos ex]
  have hc := ex.choose_spec
  rcases Nat.le_total n ex.choose with z | z
  · obtain ⟨k, e⟩ := Nat.exists_eq_add_of_le z
    rw [e, whileN_le h k]
  · obtain ⟨k, e⟩ := Nat.exists_eq_add_of_le z
    rw [e, whileN_le hc k]
theorem sWhile_stop {t : FTx} {b : FSx} {r : FL.Env} {S : Sto} (h : t r S = .ok false S) : sWhile t b r S = .ok (.nx r) S := by
  have e : whileN t b 1 r S = .ok (.nx r) S := by
    unfold whileN
    simp only [bnd, h]
    rfl
  rw [sWhile_eq (n := 1) (by rw [e]; exact fun z => by cases z), e]
theorem sWhile_go {t : FTx} {b : FSx} {r r1 : FL.Env} {S S1 : Sto} (h : t r S = .ok true S) (h2 : b r S = .ok (.nx r1) S1) : sWhile t b r S = sWhile t b r1 S1 := by
  have e : ∀ n, whileN t b (n + 1) r S = whileN t b n r1 S1 := fun n => by
    rw [whileN]
    simp only [bnd, h, if_true, h2]
  by_cases ex : ∃ n, whileN t b n r1 S1 ≠ .no
  · obtain ⟨n, hn⟩ := ex
    rw [sWhile_eq hn, sWhile_eq (n := n + 1) (by rw [e]; exact hn), e]
  · have n1 : sWhile t b r1 S1 = .no := by unfold sWhile; rw [dif_neg ex]
    have n2 : sWhile t b r S = .no := by
      unfold sWhile
      rw [dif_neg]
      rintro ⟨n, hn⟩
      cases n with
      | zero => exact hn rfl
      | succ n => rw [e] at hn; exact ex ⟨n, hn⟩
    rw [n1, n2]
/-! ## rests -/
/-! ## what is shown -/
theorem neD_bl (x y : Bool) : neD (.bl x) (.bl y) = some (.bl (!(x == y))) := by simp [neD, pyD, toPy, PyData.depth, PyData.eqv]
/-! ## the law's own reading -/
/-! ## two looks of one place -/
end SS
end
section
set_option Elab.async false
set_option linter.all false
set_option maxRecDepth 100000
set_option autoImplicit false
set_option maxHeartbeats 4000000
namespace SS
open PySem PySem.Spec PyProof.Rows L2 FL
local macro_rules
  | `(tactic| simp_arith only [$xs,*]) => `(tactic| simp (config := { implicitDefEqProofs := false }) only [tn_ok, oR_some, nx_ok, ev_var, ev_c, ev_bin, ev_kBin1, ev_kBin2, ev_un, ev_kUn, ev_asB, ev_kB, ev_asT, ev_kT, ev_tAnd2, ev_kAndT, ev_kAndF, ev_tOr2, ev_kOrT, ev_kOrF, ev_not, ev_kNot, ev_eAnd2, ev_kAndE, ev_kAndET, ev_kAndEF, ev_eOr2, ev_kOrE, ev_kOrET, ev_kOrEF, ev_eNot1, ev_kNotE, ev_kNotE2, ev_if, ev_kIfT, ev_kIfF, ev_aNil, ev_aCons, ev_kCons, ev_kCons2, ev_aStar, ev_kStar, ev_kStar2, ev_kStar3, ev_eTup, ev_kTup, ev_kTup2, ev_eLst, ev_kLst, ev_kLst2, ev_eNewL, ev_kNewL, ev_kNewL2, ev_newD, ev_callP, ev_kCallP, ev_call, ev_kCall, ev_kCall2, ev_oNone, ev_oSome, ev_kO, ev_kO2, ev_sl, ev_kSl, ev_kSl2, ev_kSl3, ev_sl3, ev_kT1, ev_kT2, ev_kT3, ev_kT4, ev_listRg, ev_kLR, ev_kLR2, ev_forM, ev_forMr, ev_forMl, ev_forMt, ev_forR, ev_meth, ev_kM, ev_kM2, ev_kM3, ev_meth0, ev_kM0, ev_chain, ev_kCh, ev_kCh2, ev_kCh3T, ev_kCh3F, ev_kCh4, ev_kLs, ev_kComp, ev_comp, ev_kRef, ev_compM, ev_kComp2, ev_comp2, ev_iSeq, ev_kIt, ev_iRange, ev_kRg, ev_enT, ev_enL, ev_iEnum, items_lst, items_tup, items_str, ev_true, ev_ret, ev_kRet, ev_expr, ev_kEx, ev_asg, ev_kAsg, ev_kNx, ev_seq, ev_kSeqN, ev_kSeqR, ev_kSeqB, ev_kSeqC, ev_ifS, ev_kIfST, ev_kIfSF, ev_for, ev_kFor, ev_next, ev_retN, ev_break, ev_cont, ev_par, ev_kPar, ev_par3, ev_kPar3, ev_gName, ev_gTup, ev_gsNil, ev_gsCons, ev_kGs, ev_gSub, ev_kSub, ev_kSub2, ev_kSub3, ev_kSub4, ev_mut, ev_kMu, ev_kMu2, ev_kMu3, ev_kMu4, ev_catM, ev_kCat, ev_kCat2, ev_catR, vw_non, vw_bl, vw_int, vw_str, vw_lst, vw_tup, vw_dct, vw_ref, vwO_lst, vwO_dct, tru_bl, tru_int, tru_lst, tru_tup, tru_non, add_int, add_lst, add_tup, add_str, sub_int, neg_int, gt_int, ge_int, lt_int, le_int, len_lst, len_tup, len_dct, len_str, int_int, tuple_lst, tuple_tup, list_lst, list_tup, sl_lst, sl_tup, is_non, isnt_non, non_bl, non_int, non_str, non_lst, non_tup, non_non, int_int?, ref_ref?, alt_tup, alt_lst, isi_int_non, isi_int_bl, isi_int_int, isi_int_str, isi_int_lst, isi_int_tup, isi_bool_non, isi_bool_bl, isi_bool_int, isi_bool_str, isi_bool_lst, isi_bool_tup, isi_str_non, isi_str_bl, isi_str_int, isi_str_str, isi_str_lst, isi_str_tup, isi_tuple_non, isi_tuple_bl, isi_tuple_int, isi_tuple_str, isi_tuple_lst, isi_tuple_tup, isi_list_non, isi_list_bl, isi_list_int, isi_list_str, isi_list_lst, isi_list_tup, isi_dict_non, isi_dict_bl, isi_dict_int, isi_dict_str, isi_dict_lst, isi_dict_tup, tyIn_lst2, tyD_lst, tyIn_tup2, tyD_tup, tyIn_str, tyD_str, tyIn_dct, tyD_dct, ev_cStep, ev_kC, ev_kC2T, ev_kC2F, ev_kSome, ev_cStep2, ev_kD, ev_kD2T, ev_kD2F, ev_kD3, ev_lStep, ev_kL, List.getElem?_cons_zero, List.getElem?_cons_succ, Option.join_some, Option.bind_some, Option.map_some, wipeE, List.set_cons_zero, List.set_cons_succ, List.length_cons, List.length_nil, List.map_cons, List.map_nil, gAll, gDef, List.cons_append, List.nil_append, if_true, if_false, Bool.not_true, Bool.not_false, Nat.zero_add, Nat.reduceAdd, Nat.reduceLeDiff, and_true, and_self, true_and, reduceIte, Bool.false_eq_true, $xs,*])
/-! ## values that may or may not be events -/
def nr : D → Bool
  | .ref _ => false
  | .dct _ => false
  | .fn _ _ => false
  | .obj _ _ _ => false
  | _ => true
theorem nr_vw {S : Sto} {d : D} (h : nr d = true) : vw S d = d := by cases d <;> first | rfl | (simp [nr] at h)
def isNat : D → Bool
  | .int i => decide (0 ≤ i)
  | _ => false
def SpIntG (F : Fn) : Prop := ∀ (d : D) (S : Sto), nr d = true → F [d] S = .ok (.bl (match d with | .int _ => true | _ => false)) S
theorem is_integerG_ok : SpIntG (dBody false 1 B_is_integer) := by
  intro d S h
  show doneR false S (B_is_integer [some d] S) = _
  cases d <;> first | (simp_arith only [B_is_integer, done_eq]; done) | (simp [nr] at h)
def SpNumG (F : Fn) : Prop := ∀ (d : D) (S : Sto), nr d = true → F [d] S = .ok (.bl (isNat d)) S
theorem geD_int (i j : Int) : geD (.int i) (.int j) = some (.bl (decide (j ≤ i))) := rfl
theorem is_numberG_ok {F1 : Fn} (h1 : SpIntG F1) : SpNumG (dBody false 1 (B_is_number F1)) := by
  intro d S h
  have e := h1 d S h
  show doneR false S (B_is_number F1 [some d] S) = _
  cases d with
  | int i => simp_arith only [B_is_number, e, geD_int, done_eq, isNat]
  | ref n => simp [nr] at h
  | dct n => simp [nr] at h
  | fn _ _ => simp [nr] at h
  | obj _ _ _ => simp [nr] at h
  | _ => simp_arith only [B_is_number, e, done_eq, isNat]
/-! ## faults -/
/-! ## all short runs -/
end SS
end
section
set_option Elab.async false
set_option linter.all false
set_option maxRecDepth 100000
set_option autoImplicit false
set_option maxHeartbeats 2000000
namespace SS
open PySem PySem.Spec PyProof.Rows L2 FL
end SS
end
section
set_option Elab.async false
set_option linter.all false
set_option maxRecDepth 100000
set_option autoImplicit false
set_option maxHeartbeats 4000000
namespace SS
open PySem PySem.Spec PyProof.Rows L2 FL
/-! ## texts of names and numbers -/
/-- a text of at most n signs -/
def Tn (n : Nat) (x : Str) : Prop := x.length ≤ n ∧ ∀ c ∈ x.cps.toList, c < 1000
/-- a name or a number -/
def Pt (d : D) : Prop := (∃ x : Str, d = .str x ∧ Tn 8 x) ∨ (∃ i : Int, d = .int i ∧ i.natAbs < 10 ^ 60)
theorem Tn.mono {n m : Nat} {x : Str} (h : Tn n x) (hm : n ≤ m) : Tn m x := ⟨Nat.le_trans h.1 hm, h.2⟩
/-! ## f-strings -/
def cat (acc : Str) : List Str → Str
  | [] => acc
  | y :: ys => cat (acc ++ y) ys
end SS
end
section
set_option Elab.async false
set_option linter.all false
set_option maxRecDepth 100000
set_option autoImplicit false
set_option maxHeartbeats 4000000
namespace SS
open PySem PySem.Spec PyProof.Rows L2 FL
local macro_rules
  | `(tactic| simp_arith only [$xs,*]) => `(tactic| simp (config := { implicitDefEqProofs := false }) only [tn_ok, oR_some, nx_ok, ev_var, ev_c, ev_bin, ev_kBin1, ev_kBin2, ev_un, ev_kUn, ev_asB, ev_kB, ev_asT, ev_kT, ev_tAnd2, ev_kAndT, ev_kAndF, ev_tOr2, ev_kOrT, ev_kOrF, ev_not, ev_kNot, ev_eAnd2, ev_kAndE, ev_kAndET, ev_kAndEF, ev_eOr2, ev_kOrE, ev_kOrET, ev_kOrEF, ev_eNot1, ev_kNotE, ev_kNotE2, ev_if, ev_kIfT, ev_kIfF, ev_aNil, ev_aCons, ev_kCons, ev_kCons2, ev_aStar, ev_kStar, ev_kStar2, ev_kStar3, ev_eTup, ev_kTup, ev_kTup2, ev_eLst, ev_kLst, ev_kLst2, ev_eNewL, ev_kNewL, ev_kNewL2, ev_newD, ev_callP, ev_kCallP, ev_call, ev_kCall, ev_kCall2, ev_oNone, ev_oSome, ev_kO, ev_kO2, ev_sl, ev_kSl, ev_kSl2, ev_kSl3, ev_sl3, ev_kT1, ev_kT2, ev_kT3, ev_kT4, ev_listRg, ev_kLR, ev_kLR2, ev_forM, ev_forMr, ev_forMl, ev_forMt, ev_forR, ev_meth, ev_kM, ev_kM2, ev_kM3, ev_meth0, ev_kM0, ev_chain, ev_kCh, ev_kCh2, ev_kCh3T, ev_kCh3F, ev_kCh4, ev_kLs, ev_kComp, ev_comp, ev_kRef, ev_compM, ev_kComp2, ev_comp2, ev_iSeq, ev_kIt, ev_iRange, ev_kRg, ev_enT, ev_enL, ev_iEnum, items_lst, items_tup, items_str, ev_true, ev_ret, ev_kRet, ev_expr, ev_kEx, ev_asg, ev_kAsg, ev_kNx, ev_seq, ev_kSeqN, ev_kSeqR, ev_kSeqB, ev_kSeqC, ev_ifS, ev_kIfST, ev_kIfSF, ev_for, ev_kFor, ev_next, ev_retN, ev_break, ev_cont, ev_par, ev_kPar, ev_par3, ev_kPar3, ev_gName, ev_gTup, ev_gsNil, ev_gsCons, ev_kGs, ev_gSub, ev_kSub, ev_kSub2, ev_kSub3, ev_kSub4, ev_mut, ev_kMu, ev_kMu2, ev_kMu3, ev_kMu4, ev_catM, ev_kCat, ev_kCat2, ev_catR, vw_non, vw_bl, vw_int, vw_str, vw_lst, vw_tup, vw_dct, vw_ref, vwO_lst, vwO_dct, tru_bl, tru_int, tru_lst, tru_tup, tru_non, add_int, add_lst, add_tup, add_str, sub_int, neg_int, gt_int, ge_int, lt_int, le_int, len_lst, len_tup, len_dct, len_str, int_int, tuple_lst, tuple_tup, list_lst, list_tup, sl_lst, sl_tup, is_non, isnt_non, non_bl, non_int, non_str, non_lst, non_tup, non_non, int_int?, ref_ref?, alt_tup, alt_lst, isi_int_non, isi_int_bl, isi_int_int, isi_int_str, isi_int_lst, isi_int_tup, isi_bool_non, isi_bool_bl, isi_bool_int, isi_bool_str, isi_bool_lst, isi_bool_tup, isi_str_non, isi_str_bl, isi_str_int, isi_str_str, isi_str_lst, isi_str_tup, isi_tuple_non, isi_tuple_bl, isi_tuple_int, isi_tuple_str, isi_tuple_lst, isi_tuple_tup, isi_list_non, isi_list_bl, isi_list_int, isi_list_str, isi_list_lst, isi_list_tup, isi_dict_non, isi_dict_bl, isi_dict_int, isi_dict_str, isi_dict_lst, isi_dict_tup, tyIn_lst2, tyD_lst, tyIn_tup2, tyD_tup, tyIn_str, tyD_str, tyIn_dct, tyD_dct, ev_cStep, ev_kC, ev_kC2T, ev_kC2F, ev_kSome, ev_cStep2, ev_kD, ev_kD2T, ev_kD2F, ev_kD3, ev_lStep, ev_kL, List.getElem?_cons_zero, List.getElem?_cons_succ, Option.join_some, Option.bind_some, Option.map_some, wipeE, List.set_cons_zero, List.set_cons_succ, List.length_cons, List.length_nil, List.map_cons, List.map_nil, gAll, gDef, List.cons_append, List.nil_append, if_true, if_false, Bool.not_true, Bool.not_false, Nat.zero_add, Nat.reduceAdd, Nat.reduceLeDiff, and_true, and_self, true_and, reduceIte, Bool.false_eq_true, $xs,*])
/-! ## arrows and programs of any names and numbers -/
abbrev Aw : Type := Int × List D × Int
def awD (x : Aw) : D := .tup [.int x.1, .tup x.2.1, .int x.2.2]
structure WdOk (ps : List D) : Prop where
  ne : ps ≠ []
  ln : ps.length ≤ 4
  pt : ∀ d ∈ ps, Pt d
structure AwOk (x : Aw) : Prop where
  a : x.1.natAbs < 10 ^ 60
  b : x.2.2.natAbs < 10 ^ 60
  w : WdOk x.2.1
end SS
end
section
set_option Elab.async false
set_option linter.all false
set_option maxRecDepth 100000
set_option autoImplicit false
set_option maxHeartbeats 4000000
namespace SS
open PySem PySem.Spec PyProof.Rows L2 FL
local macro_rules
  | `(tactic| simp_arith only [$xs,*]) => `(tactic| simp (config := { implicitDefEqProofs := false }) only [tn_ok, oR_some, nx_ok, ev_var, ev_c, ev_bin, ev_kBin1, ev_kBin2, ev_un, ev_kUn, ev_asB, ev_kB, ev_asT, ev_kT, ev_tAnd2, ev_kAndT, ev_kAndF, ev_tOr2, ev_kOrT, ev_kOrF, ev_not, ev_kNot, ev_eAnd2, ev_kAndE, ev_kAndET, ev_kAndEF, ev_eOr2, ev_kOrE, ev_kOrET, ev_kOrEF, ev_eNot1, ev_kNotE, ev_kNotE2, ev_if, ev_kIfT, ev_kIfF, ev_aNil, ev_aCons, ev_kCons, ev_kCons2, ev_aStar, ev_kStar, ev_kStar2, ev_kStar3, ev_eTup, ev_kTup, ev_kTup2, ev_eLst, ev_kLst, ev_kLst2, ev_eNewL, ev_kNewL, ev_kNewL2, ev_newD, ev_callP, ev_kCallP, ev_call, ev_kCall, ev_kCall2, ev_oNone, ev_oSome, ev_kO, ev_kO2, ev_sl, ev_kSl, ev_kSl2, ev_kSl3, ev_sl3, ev_kT1, ev_kT2, ev_kT3, ev_kT4, ev_listRg, ev_kLR, ev_kLR2, ev_forM, ev_forMr, ev_forMl, ev_forMt, ev_forR, ev_meth, ev_kM, ev_kM2, ev_kM3, ev_meth0, ev_kM0, ev_chain, ev_kCh, ev_kCh2, ev_kCh3T, ev_kCh3F, ev_kCh4, ev_kLs, ev_kComp, ev_comp, ev_kRef, ev_compM, ev_kComp2, ev_comp2, ev_iSeq, ev_kIt, ev_iRange, ev_kRg, ev_enT, ev_enL, ev_iEnum, items_lst, items_tup, items_str, ev_true, ev_ret, ev_kRet, ev_expr, ev_kEx, ev_asg, ev_kAsg, ev_kNx, ev_seq, ev_kSeqN, ev_kSeqR, ev_kSeqB, ev_kSeqC, ev_ifS, ev_kIfST, ev_kIfSF, ev_for, ev_kFor, ev_next, ev_retN, ev_break, ev_cont, ev_par, ev_kPar, ev_par3, ev_kPar3, ev_gName, ev_gTup, ev_gsNil, ev_gsCons, ev_kGs, ev_gSub, ev_kSub, ev_kSub2, ev_kSub3, ev_kSub4, ev_mut, ev_kMu, ev_kMu2, ev_kMu3, ev_kMu4, ev_catM, ev_kCat, ev_kCat2, ev_catR, vw_non, vw_bl, vw_int, vw_str, vw_lst, vw_tup, vw_dct, vw_ref, vwO_lst, vwO_dct, tru_bl, tru_int, tru_lst, tru_tup, tru_non, add_int, add_lst, add_tup, add_str, sub_int, neg_int, gt_int, ge_int, lt_int, le_int, len_lst, len_tup, len_dct, len_str, int_int, tuple_lst, tuple_tup, list_lst, list_tup, sl_lst, sl_tup, is_non, isnt_non, non_bl, non_int, non_str, non_lst, non_tup, non_non, int_int?, ref_ref?, alt_tup, alt_lst, isi_int_non, isi_int_bl, isi_int_int, isi_int_str, isi_int_lst, isi_int_tup, isi_bool_non, isi_bool_bl, isi_bool_int, isi_bool_str, isi_bool_lst, isi_bool_tup, isi_str_non, isi_str_bl, isi_str_int, isi_str_str, isi_str_lst, isi_str_tup, isi_tuple_non, isi_tuple_bl, isi_tuple_int, isi_tuple_str, isi_tuple_lst, isi_tuple_tup, isi_list_non, isi_list_bl, isi_list_int, isi_list_str, isi_list_lst, isi_list_tup, isi_dict_non, isi_dict_bl, isi_dict_int, isi_dict_str, isi_dict_lst, isi_dict_tup, tyIn_lst2, tyD_lst, tyIn_tup2, tyD_tup, tyIn_str, tyD_str, tyIn_dct, tyD_dct, ev_cStep, ev_kC, ev_kC2T, ev_kC2F, ev_kSome, ev_cStep2, ev_kD, ev_kD2T, ev_kD2F, ev_kD3, ev_lStep, ev_kL, List.getElem?_cons_zero, List.getElem?_cons_succ, Option.join_some, Option.bind_some, Option.map_some, wipeE, List.set_cons_zero, List.set_cons_succ, List.length_cons, List.length_nil, List.map_cons, List.map_nil, gAll, gDef, List.cons_append, List.nil_append, if_true, if_false, Bool.not_true, Bool.not_false, Nat.zero_add, Nat.reduceAdd, Nat.reduceLeDiff, and_true, and_self, true_and, reduceIte, Bool.false_eq_true, $xs,*])
/-! ## counters, slots and parties as a reader returns them -/
structure Tri where
  cs : List Str
  ss : List (Str × Str)
  ps : List (Str × List Aw)
def ssD (s : Str × Str) : D := .tup [.str s.1, .str s.2]
def psD (q : Str × List Aw) : D := .tup [.str q.1, .tup (q.2.map awD)]
def Tri.d (t : Tri) : D := .tup [.tup (t.cs.map D.str), .tup (t.ss.map ssD), .tup (t.ps.map psD)]
structure PsOk (q : Str × List Aw) : Prop where
  n : Tn 8 q.1
  l : q.2.length ≤ 10
  a : ∀ x ∈ q.2, AwOk x
structure Tri.Ok (t : Tri) : Prop where
  lc : t.cs.length ≤ 10
  c : ∀ x ∈ t.cs, Tn 8 x
  ls : t.ss.length ≤ 10
  s : ∀ x ∈ t.ss, Tn 8 x.1 ∧ Tn 8 x.2
  lp : t.ps.length ≤ 10
  p : ∀ q ∈ t.ps, PsOk q
/-! ## the program's own -/
end SS
end
section
set_option Elab.async false
set_option linter.all false
set_option maxRecDepth 100000
set_option autoImplicit false
set_option maxHeartbeats 4000000
namespace SS
open PySem PySem.Spec PyProof.Rows L2 FL
local macro_rules
  | `(tactic| simp_arith only [$xs,*]) => `(tactic| simp (config := { implicitDefEqProofs := false }) only [tn_ok, oR_some, nx_ok, ev_var, ev_c, ev_bin, ev_kBin1, ev_kBin2, ev_un, ev_kUn, ev_asB, ev_kB, ev_asT, ev_kT, ev_tAnd2, ev_kAndT, ev_kAndF, ev_tOr2, ev_kOrT, ev_kOrF, ev_not, ev_kNot, ev_eAnd2, ev_kAndE, ev_kAndET, ev_kAndEF, ev_eOr2, ev_kOrE, ev_kOrET, ev_kOrEF, ev_eNot1, ev_kNotE, ev_kNotE2, ev_if, ev_kIfT, ev_kIfF, ev_aNil, ev_aCons, ev_kCons, ev_kCons2, ev_aStar, ev_kStar, ev_kStar2, ev_kStar3, ev_eTup, ev_kTup, ev_kTup2, ev_eLst, ev_kLst, ev_kLst2, ev_eNewL, ev_kNewL, ev_kNewL2, ev_newD, ev_callP, ev_kCallP, ev_call, ev_kCall, ev_kCall2, ev_oNone, ev_oSome, ev_kO, ev_kO2, ev_sl, ev_kSl, ev_kSl2, ev_kSl3, ev_sl3, ev_kT1, ev_kT2, ev_kT3, ev_kT4, ev_listRg, ev_kLR, ev_kLR2, ev_forM, ev_forMr, ev_forMl, ev_forMt, ev_forR, ev_meth, ev_kM, ev_kM2, ev_kM3, ev_meth0, ev_kM0, ev_chain, ev_kCh, ev_kCh2, ev_kCh3T, ev_kCh3F, ev_kCh4, ev_kLs, ev_kComp, ev_comp, ev_kRef, ev_compM, ev_kComp2, ev_comp2, ev_iSeq, ev_kIt, ev_iRange, ev_kRg, ev_enT, ev_enL, ev_iEnum, items_lst, items_tup, items_str, ev_true, ev_ret, ev_kRet, ev_expr, ev_kEx, ev_asg, ev_kAsg, ev_kNx, ev_seq, ev_kSeqN, ev_kSeqR, ev_kSeqB, ev_kSeqC, ev_ifS, ev_kIfST, ev_kIfSF, ev_for, ev_kFor, ev_next, ev_retN, ev_break, ev_cont, ev_par, ev_kPar, ev_par3, ev_kPar3, ev_gName, ev_gTup, ev_gsNil, ev_gsCons, ev_kGs, ev_gSub, ev_kSub, ev_kSub2, ev_kSub3, ev_kSub4, ev_mut, ev_kMu, ev_kMu2, ev_kMu3, ev_kMu4, ev_catM, ev_kCat, ev_kCat2, ev_catR, vw_non, vw_bl, vw_int, vw_str, vw_lst, vw_tup, vw_dct, vw_ref, vwO_lst, vwO_dct, tru_bl, tru_int, tru_lst, tru_tup, tru_non, add_int, add_lst, add_tup, add_str, sub_int, neg_int, gt_int, ge_int, lt_int, le_int, len_lst, len_tup, len_dct, len_str, int_int, tuple_lst, tuple_tup, list_lst, list_tup, sl_lst, sl_tup, is_non, isnt_non, non_bl, non_int, non_str, non_lst, non_tup, non_non, int_int?, ref_ref?, alt_tup, alt_lst, isi_int_non, isi_int_bl, isi_int_int, isi_int_str, isi_int_lst, isi_int_tup, isi_bool_non, isi_bool_bl, isi_bool_int, isi_bool_str, isi_bool_lst, isi_bool_tup, isi_str_non, isi_str_bl, isi_str_int, isi_str_str, isi_str_lst, isi_str_tup, isi_tuple_non, isi_tuple_bl, isi_tuple_int, isi_tuple_str, isi_tuple_lst, isi_tuple_tup, isi_list_non, isi_list_bl, isi_list_int, isi_list_str, isi_list_lst, isi_list_tup, isi_dict_non, isi_dict_bl, isi_dict_int, isi_dict_str, isi_dict_lst, isi_dict_tup, tyIn_lst2, tyD_lst, tyIn_tup2, tyD_tup, tyIn_str, tyD_str, tyIn_dct, tyD_dct, ev_cStep, ev_kC, ev_kC2T, ev_kC2F, ev_kSome, ev_cStep2, ev_kD, ev_kD2T, ev_kD2F, ev_kD3, ev_lStep, ev_kL, List.getElem?_cons_zero, List.getElem?_cons_succ, Option.join_some, Option.bind_some, Option.map_some, wipeE, List.set_cons_zero, List.set_cons_succ, List.length_cons, List.length_nil, List.map_cons, List.map_nil, gAll, gDef, List.cons_append, List.nil_append, if_true, if_false, Bool.not_true, Bool.not_false, Nat.zero_add, Nat.reduceAdd, Nat.reduceLeDiff, and_true, and_self, true_and, reduceIte, Bool.false_eq_true, $xs,*])
/-! ## the law's own -/
end SS
end
section
set_option Elab.async false
set_option linter.all false
set_option maxRecDepth 100000
set_option autoImplicit false
set_option maxHeartbeats 4000000
namespace SS
open PySem PySem.Spec PyProof.Rows L2 FL
local macro_rules
  | `(tactic| simp_arith only [$xs,*]) => `(tactic| simp (config := { implicitDefEqProofs := false }) only [tn_ok, oR_some, nx_ok, ev_var, ev_c, ev_bin, ev_kBin1, ev_kBin2, ev_un, ev_kUn, ev_asB, ev_kB, ev_asT, ev_kT, ev_tAnd2, ev_kAndT, ev_kAndF, ev_tOr2, ev_kOrT, ev_kOrF, ev_not, ev_kNot, ev_eAnd2, ev_kAndE, ev_kAndET, ev_kAndEF, ev_eOr2, ev_kOrE, ev_kOrET, ev_kOrEF, ev_eNot1, ev_kNotE, ev_kNotE2, ev_if, ev_kIfT, ev_kIfF, ev_aNil, ev_aCons, ev_kCons, ev_kCons2, ev_aStar, ev_kStar, ev_kStar2, ev_kStar3, ev_eTup, ev_kTup, ev_kTup2, ev_eLst, ev_kLst, ev_kLst2, ev_eNewL, ev_kNewL, ev_kNewL2, ev_newD, ev_callP, ev_kCallP, ev_call, ev_kCall, ev_kCall2, ev_oNone, ev_oSome, ev_kO, ev_kO2, ev_sl, ev_kSl, ev_kSl2, ev_kSl3, ev_sl3, ev_kT1, ev_kT2, ev_kT3, ev_kT4, ev_listRg, ev_kLR, ev_kLR2, ev_forM, ev_forMr, ev_forMl, ev_forMt, ev_forR, ev_meth, ev_kM, ev_kM2, ev_kM3, ev_meth0, ev_kM0, ev_chain, ev_kCh, ev_kCh2, ev_kCh3T, ev_kCh3F, ev_kCh4, ev_kLs, ev_kComp, ev_comp, ev_kRef, ev_compM, ev_kComp2, ev_comp2, ev_iSeq, ev_kIt, ev_iRange, ev_kRg, ev_enT, ev_enL, ev_iEnum, items_lst, items_tup, items_str, ev_true, ev_ret, ev_kRet, ev_expr, ev_kEx, ev_asg, ev_kAsg, ev_kNx, ev_seq, ev_kSeqN, ev_kSeqR, ev_kSeqB, ev_kSeqC, ev_ifS, ev_kIfST, ev_kIfSF, ev_for, ev_kFor, ev_next, ev_retN, ev_break, ev_cont, ev_par, ev_kPar, ev_par3, ev_kPar3, ev_gName, ev_gTup, ev_gsNil, ev_gsCons, ev_kGs, ev_gSub, ev_kSub, ev_kSub2, ev_kSub3, ev_kSub4, ev_mut, ev_kMu, ev_kMu2, ev_kMu3, ev_kMu4, ev_catM, ev_kCat, ev_kCat2, ev_catR, vw_non, vw_bl, vw_int, vw_str, vw_lst, vw_tup, vw_dct, vw_ref, vwO_lst, vwO_dct, tru_bl, tru_int, tru_lst, tru_tup, tru_non, add_int, add_lst, add_tup, add_str, sub_int, neg_int, gt_int, ge_int, lt_int, le_int, len_lst, len_tup, len_dct, len_str, int_int, tuple_lst, tuple_tup, list_lst, list_tup, sl_lst, sl_tup, is_non, isnt_non, non_bl, non_int, non_str, non_lst, non_tup, non_non, int_int?, ref_ref?, alt_tup, alt_lst, isi_int_non, isi_int_bl, isi_int_int, isi_int_str, isi_int_lst, isi_int_tup, isi_bool_non, isi_bool_bl, isi_bool_int, isi_bool_str, isi_bool_lst, isi_bool_tup, isi_str_non, isi_str_bl, isi_str_int, isi_str_str, isi_str_lst, isi_str_tup, isi_tuple_non, isi_tuple_bl, isi_tuple_int, isi_tuple_str, isi_tuple_lst, isi_tuple_tup, isi_list_non, isi_list_bl, isi_list_int, isi_list_str, isi_list_lst, isi_list_tup, isi_dict_non, isi_dict_bl, isi_dict_int, isi_dict_str, isi_dict_lst, isi_dict_tup, tyIn_lst2, tyD_lst, tyIn_tup2, tyD_tup, tyIn_str, tyD_str, tyIn_dct, tyD_dct, ev_cStep, ev_kC, ev_kC2T, ev_kC2F, ev_kSome, ev_cStep2, ev_kD, ev_kD2T, ev_kD2F, ev_kD3, ev_lStep, ev_kL, List.getElem?_cons_zero, List.getElem?_cons_succ, Option.join_some, Option.bind_some, Option.map_some, wipeE, List.set_cons_zero, List.set_cons_succ, List.length_cons, List.length_nil, List.map_cons, List.map_nil, gAll, gDef, List.cons_append, List.nil_append, if_true, if_false, Bool.not_true, Bool.not_false, Nat.zero_add, Nat.reduceAdd, Nat.reduceLeDiff, and_true, and_self, true_and, reduceIte, Bool.false_eq_true, $xs,*])
/-! ## draws with any last lines -/
/-! ## the last lines with squares -/
/-! ## comprehensions and loops that draw -/
end SS
end
section
set_option Elab.async false
set_option linter.all false
set_option maxRecDepth 100000
set_option autoImplicit false
set_option maxHeartbeats 4000000
namespace SS
open PySem PySem.Spec PyProof.Rows L2 FL
local macro_rules
  | `(tactic| simp_arith only [$xs,*]) => `(tactic| simp (config := { implicitDefEqProofs := false }) only [tn_ok, oR_some, nx_ok, ev_var, ev_c, ev_bin, ev_kBin1, ev_kBin2, ev_un, ev_kUn, ev_asB, ev_kB, ev_asT, ev_kT, ev_tAnd2, ev_kAndT, ev_kAndF, ev_tOr2, ev_kOrT, ev_kOrF, ev_not, ev_kNot, ev_eAnd2, ev_kAndE, ev_kAndET, ev_kAndEF, ev_eOr2, ev_kOrE, ev_kOrET, ev_kOrEF, ev_eNot1, ev_kNotE, ev_kNotE2, ev_if, ev_kIfT, ev_kIfF, ev_aNil, ev_aCons, ev_kCons, ev_kCons2, ev_aStar, ev_kStar, ev_kStar2, ev_kStar3, ev_eTup, ev_kTup, ev_kTup2, ev_eLst, ev_kLst, ev_kLst2, ev_eNewL, ev_kNewL, ev_kNewL2, ev_newD, ev_callP, ev_kCallP, ev_call, ev_kCall, ev_kCall2, ev_oNone, ev_oSome, ev_kO, ev_kO2, ev_sl, ev_kSl, ev_kSl2, ev_kSl3, ev_sl3, ev_kT1, ev_kT2, ev_kT3, ev_kT4, ev_listRg, ev_kLR, ev_kLR2, ev_forM, ev_forMr, ev_forMl, ev_forMt, ev_forR, ev_meth, ev_kM, ev_kM2, ev_kM3, ev_meth0, ev_kM0, ev_chain, ev_kCh, ev_kCh2, ev_kCh3T, ev_kCh3F, ev_kCh4, ev_kLs, ev_kComp, ev_comp, ev_kRef, ev_compM, ev_kComp2, ev_comp2, ev_iSeq, ev_kIt, ev_iRange, ev_kRg, ev_enT, ev_enL, ev_iEnum, items_lst, items_tup, items_str, ev_true, ev_ret, ev_kRet, ev_expr, ev_kEx, ev_asg, ev_kAsg, ev_kNx, ev_seq, ev_kSeqN, ev_kSeqR, ev_kSeqB, ev_kSeqC, ev_ifS, ev_kIfST, ev_kIfSF, ev_for, ev_kFor, ev_next, ev_retN, ev_break, ev_cont, ev_par, ev_kPar, ev_par3, ev_kPar3, ev_gName, ev_gTup, ev_gsNil, ev_gsCons, ev_kGs, ev_gSub, ev_kSub, ev_kSub2, ev_kSub3, ev_kSub4, ev_mut, ev_kMu, ev_kMu2, ev_kMu3, ev_kMu4, ev_catM, ev_kCat, ev_kCat2, ev_catR, vw_non, vw_bl, vw_int, vw_str, vw_lst, vw_tup, vw_dct, vw_ref, vwO_lst, vwO_dct, tru_bl, tru_int, tru_lst, tru_tup, tru_non, add_int, add_lst, add_tup, add_str, sub_int, neg_int, gt_int, ge_int, lt_int, le_int, len_lst, len_tup, len_dct, len_str, int_int, tuple_lst, tuple_tup, list_lst, list_tup, sl_lst, sl_tup, is_non, isnt_non, non_bl, non_int, non_str, non_lst, non_tup, non_non, int_int?, ref_ref?, alt_tup, alt_lst, isi_int_non, isi_int_bl, isi_int_int, isi_int_str, isi_int_lst, isi_int_tup, isi_bool_non, isi_bool_bl, isi_bool_int, isi_bool_str, isi_bool_lst, isi_bool_tup, isi_str_non, isi_str_bl, isi_str_int, isi_str_str, isi_str_lst, isi_str_tup, isi_tuple_non, isi_tuple_bl, isi_tuple_int, isi_tuple_str, isi_tuple_lst, isi_tuple_tup, isi_list_non, isi_list_bl, isi_list_int, isi_list_str, isi_list_lst, isi_list_tup, isi_dict_non, isi_dict_bl, isi_dict_int, isi_dict_str, isi_dict_lst, isi_dict_tup, tyIn_lst2, tyD_lst, tyIn_tup2, tyD_tup, tyIn_str, tyD_str, tyIn_dct, tyD_dct, ev_cStep, ev_kC, ev_kC2T, ev_kC2F, ev_kSome, ev_cStep2, ev_kD, ev_kD2T, ev_kD2F, ev_kD3, ev_lStep, ev_kL, List.getElem?_cons_zero, List.getElem?_cons_succ, Option.join_some, Option.bind_some, Option.map_some, wipeE, List.set_cons_zero, List.set_cons_succ, List.length_cons, List.length_nil, List.map_cons, List.map_nil, gAll, gDef, List.cons_append, List.nil_append, if_true, if_false, Bool.not_true, Bool.not_false, Nat.zero_add, Nat.reduceAdd, Nat.reduceLeDiff, and_true, and_self, true_and, reduceIte, Bool.false_eq_true, $xs,*])
/-! ## names -/
/-! ## sets of names -/
end SS
end
section
set_option Elab.async false
set_option linter.all false
set_option maxRecDepth 100000
set_option autoImplicit false
set_option maxHeartbeats 4000000
namespace SS
open PySem PySem.Spec PyProof.Rows L2 FL
local macro_rules
  | `(tactic| simp_arith only [$xs,*]) => `(tactic| simp (config := { implicitDefEqProofs := false }) only [tn_ok, oR_some, nx_ok, ev_var, ev_c, ev_bin, ev_kBin1, ev_kBin2, ev_un, ev_kUn, ev_asB, ev_kB, ev_asT, ev_kT, ev_tAnd2, ev_kAndT, ev_kAndF, ev_tOr2, ev_kOrT, ev_kOrF, ev_not, ev_kNot, ev_eAnd2, ev_kAndE, ev_kAndET, ev_kAndEF, ev_eOr2, ev_kOrE, ev_kOrET, ev_kOrEF, ev_eNot1, ev_kNotE, ev_kNotE2, ev_if, ev_kIfT, ev_kIfF, ev_aNil, ev_aCons, ev_kCons, ev_kCons2, ev_aStar, ev_kStar, ev_kStar2, ev_kStar3, ev_eTup, ev_kTup, ev_kTup2, ev_eLst, ev_kLst, ev_kLst2, ev_eNewL, ev_kNewL, ev_kNewL2, ev_newD, ev_callP, ev_kCallP, ev_call, ev_kCall, ev_kCall2, ev_oNone, ev_oSome, ev_kO, ev_kO2, ev_sl, ev_kSl, ev_kSl2, ev_kSl3, ev_sl3, ev_kT1, ev_kT2, ev_kT3, ev_kT4, ev_listRg, ev_kLR, ev_kLR2, ev_forM, ev_forMr, ev_forMl, ev_forMt, ev_forR, ev_meth, ev_kM, ev_kM2, ev_kM3, ev_meth0, ev_kM0, ev_chain, ev_kCh, ev_kCh2, ev_kCh3T, ev_kCh3F, ev_kCh4, ev_kLs, ev_kComp, ev_comp, ev_kRef, ev_compM, ev_kComp2, ev_comp2, ev_iSeq, ev_kIt, ev_iRange, ev_kRg, ev_enT, ev_enL, ev_iEnum, items_lst, items_tup, items_str, ev_true, ev_ret, ev_kRet, ev_expr, ev_kEx, ev_asg, ev_kAsg, ev_kNx, ev_seq, ev_kSeqN, ev_kSeqR, ev_kSeqB, ev_kSeqC, ev_ifS, ev_kIfST, ev_kIfSF, ev_for, ev_kFor, ev_next, ev_retN, ev_break, ev_cont, ev_par, ev_kPar, ev_par3, ev_kPar3, ev_gName, ev_gTup, ev_gsNil, ev_gsCons, ev_kGs, ev_gSub, ev_kSub, ev_kSub2, ev_kSub3, ev_kSub4, ev_mut, ev_kMu, ev_kMu2, ev_kMu3, ev_kMu4, ev_catM, ev_kCat, ev_kCat2, ev_catR, vw_non, vw_bl, vw_int, vw_str, vw_lst, vw_tup, vw_dct, vw_ref, vwO_lst, vwO_dct, tru_bl, tru_int, tru_lst, tru_tup, tru_non, add_int, add_lst, add_tup, add_str, sub_int, neg_int, gt_int, ge_int, lt_int, le_int, len_lst, len_tup, len_dct, len_str, int_int, tuple_lst, tuple_tup, list_lst, list_tup, sl_lst, sl_tup, is_non, isnt_non, non_bl, non_int, non_str, non_lst, non_tup, non_non, int_int?, ref_ref?, alt_tup, alt_lst, isi_int_non, isi_int_bl, isi_int_int, isi_int_str, isi_int_lst, isi_int_tup, isi_bool_non, isi_bool_bl, isi_bool_int, isi_bool_str, isi_bool_lst, isi_bool_tup, isi_str_non, isi_str_bl, isi_str_int, isi_str_str, isi_str_lst, isi_str_tup, isi_tuple_non, isi_tuple_bl, isi_tuple_int, isi_tuple_str, isi_tuple_lst, isi_tuple_tup, isi_list_non, isi_list_bl, isi_list_int, isi_list_str, isi_list_lst, isi_list_tup, isi_dict_non, isi_dict_bl, isi_dict_int, isi_dict_str, isi_dict_lst, isi_dict_tup, tyIn_lst2, tyD_lst, tyIn_tup2, tyD_tup, tyIn_str, tyD_str, tyIn_dct, tyD_dct, ev_cStep, ev_kC, ev_kC2T, ev_kC2F, ev_kSome, ev_cStep2, ev_kD, ev_kD2T, ev_kD2F, ev_kD3, ev_lStep, ev_kL, List.getElem?_cons_zero, List.getElem?_cons_succ, Option.join_some, Option.bind_some, Option.map_some, wipeE, List.set_cons_zero, List.set_cons_succ, List.length_cons, List.length_nil, List.map_cons, List.map_nil, gAll, gDef, List.cons_append, List.nil_append, if_true, if_false, Bool.not_true, Bool.not_false, Nat.zero_add, Nat.reduceAdd, Nat.reduceLeDiff, and_true, and_self, true_and, reduceIte, Bool.false_eq_true, $xs,*])
/-! ## deeds -/
end SS
end
section
set_option Elab.async false
set_option linter.all false
set_option maxRecDepth 100000
set_option autoImplicit false
set_option maxHeartbeats 4000000
namespace SS
open PySem PySem.Spec PyProof.Rows L2 FL
local macro_rules
  | `(tactic| simp_arith only [$xs,*]) => `(tactic| simp (config := { implicitDefEqProofs := false }) only [tn_ok, oR_some, nx_ok, ev_var, ev_c, ev_bin, ev_kBin1, ev_kBin2, ev_un, ev_kUn, ev_asB, ev_kB, ev_asT, ev_kT, ev_tAnd2, ev_kAndT, ev_kAndF, ev_tOr2, ev_kOrT, ev_kOrF, ev_not, ev_kNot, ev_eAnd2, ev_kAndE, ev_kAndET, ev_kAndEF, ev_eOr2, ev_kOrE, ev_kOrET, ev_kOrEF, ev_eNot1, ev_kNotE, ev_kNotE2, ev_if, ev_kIfT, ev_kIfF, ev_aNil, ev_aCons, ev_kCons, ev_kCons2, ev_aStar, ev_kStar, ev_kStar2, ev_kStar3, ev_eTup, ev_kTup, ev_kTup2, ev_eLst, ev_kLst, ev_kLst2, ev_eNewL, ev_kNewL, ev_kNewL2, ev_newD, ev_callP, ev_kCallP, ev_call, ev_kCall, ev_kCall2, ev_oNone, ev_oSome, ev_kO, ev_kO2, ev_sl, ev_kSl, ev_kSl2, ev_kSl3, ev_sl3, ev_kT1, ev_kT2, ev_kT3, ev_kT4, ev_listRg, ev_kLR, ev_kLR2, ev_forM, ev_forMr, ev_forMl, ev_forMt, ev_forR, ev_meth, ev_kM, ev_kM2, ev_kM3, ev_meth0, ev_kM0, ev_chain, ev_kCh, ev_kCh2, ev_kCh3T, ev_kCh3F, ev_kCh4, ev_kLs, ev_kComp, ev_comp, ev_kRef, ev_compM, ev_kComp2, ev_comp2, ev_iSeq, ev_kIt, ev_iRange, ev_kRg, ev_enT, ev_enL, ev_iEnum, items_lst, items_tup, items_str, ev_true, ev_ret, ev_kRet, ev_expr, ev_kEx, ev_asg, ev_kAsg, ev_kNx, ev_seq, ev_kSeqN, ev_kSeqR, ev_kSeqB, ev_kSeqC, ev_ifS, ev_kIfST, ev_kIfSF, ev_for, ev_kFor, ev_next, ev_retN, ev_break, ev_cont, ev_par, ev_kPar, ev_par3, ev_kPar3, ev_gName, ev_gTup, ev_gsNil, ev_gsCons, ev_kGs, ev_gSub, ev_kSub, ev_kSub2, ev_kSub3, ev_kSub4, ev_mut, ev_kMu, ev_kMu2, ev_kMu3, ev_kMu4, ev_catM, ev_kCat, ev_kCat2, ev_catR, vw_non, vw_bl, vw_int, vw_str, vw_lst, vw_tup, vw_dct, vw_ref, vwO_lst, vwO_dct, tru_bl, tru_int, tru_lst, tru_tup, tru_non, add_int, add_lst, add_tup, add_str, sub_int, neg_int, gt_int, ge_int, lt_int, le_int, len_lst, len_tup, len_dct, len_str, int_int, tuple_lst, tuple_tup, list_lst, list_tup, sl_lst, sl_tup, is_non, isnt_non, non_bl, non_int, non_str, non_lst, non_tup, non_non, int_int?, ref_ref?, alt_tup, alt_lst, isi_int_non, isi_int_bl, isi_int_int, isi_int_str, isi_int_lst, isi_int_tup, isi_bool_non, isi_bool_bl, isi_bool_int, isi_bool_str, isi_bool_lst, isi_bool_tup, isi_str_non, isi_str_bl, isi_str_int, isi_str_str, isi_str_lst, isi_str_tup, isi_tuple_non, isi_tuple_bl, isi_tuple_int, isi_tuple_str, isi_tuple_lst, isi_tuple_tup, isi_list_non, isi_list_bl, isi_list_int, isi_list_str, isi_list_lst, isi_list_tup, isi_dict_non, isi_dict_bl, isi_dict_int, isi_dict_str, isi_dict_lst, isi_dict_tup, tyIn_lst2, tyD_lst, tyIn_tup2, tyD_tup, tyIn_str, tyD_str, tyIn_dct, tyD_dct, ev_cStep, ev_kC, ev_kC2T, ev_kC2F, ev_kSome, ev_cStep2, ev_kD, ev_kD2T, ev_kD2F, ev_kD3, ev_lStep, ev_kL, List.getElem?_cons_zero, List.getElem?_cons_succ, Option.join_some, Option.bind_some, Option.map_some, wipeE, List.set_cons_zero, List.set_cons_succ, List.length_cons, List.length_nil, List.map_cons, List.map_nil, gAll, gDef, List.cons_append, List.nil_append, if_true, if_false, Bool.not_true, Bool.not_false, Nat.zero_add, Nat.reduceAdd, Nat.reduceLeDiff, and_true, and_self, true_and, reduceIte, Bool.false_eq_true, $xs,*])
/-! ## arrows -/
end SS
end
section
set_option Elab.async false
set_option linter.all false
set_option maxRecDepth 100000
set_option autoImplicit false
set_option maxHeartbeats 4000000
namespace SS
open PySem PySem.Spec PyProof.Rows L2 FL
local macro_rules
  | `(tactic| simp_arith only [$xs,*]) => `(tactic| simp (config := { implicitDefEqProofs := false }) only [tn_ok, oR_some, nx_ok, ev_var, ev_c, ev_bin, ev_kBin1, ev_kBin2, ev_un, ev_kUn, ev_asB, ev_kB, ev_asT, ev_kT, ev_tAnd2, ev_kAndT, ev_kAndF, ev_tOr2, ev_kOrT, ev_kOrF, ev_not, ev_kNot, ev_eAnd2, ev_kAndE, ev_kAndET, ev_kAndEF, ev_eOr2, ev_kOrE, ev_kOrET, ev_kOrEF, ev_eNot1, ev_kNotE, ev_kNotE2, ev_if, ev_kIfT, ev_kIfF, ev_aNil, ev_aCons, ev_kCons, ev_kCons2, ev_aStar, ev_kStar, ev_kStar2, ev_kStar3, ev_eTup, ev_kTup, ev_kTup2, ev_eLst, ev_kLst, ev_kLst2, ev_eNewL, ev_kNewL, ev_kNewL2, ev_newD, ev_callP, ev_kCallP, ev_call, ev_kCall, ev_kCall2, ev_oNone, ev_oSome, ev_kO, ev_kO2, ev_sl, ev_kSl, ev_kSl2, ev_kSl3, ev_sl3, ev_kT1, ev_kT2, ev_kT3, ev_kT4, ev_listRg, ev_kLR, ev_kLR2, ev_forM, ev_forMr, ev_forMl, ev_forMt, ev_forR, ev_meth, ev_kM, ev_kM2, ev_kM3, ev_meth0, ev_kM0, ev_chain, ev_kCh, ev_kCh2, ev_kCh3T, ev_kCh3F, ev_kCh4, ev_kLs, ev_kComp, ev_comp, ev_kRef, ev_compM, ev_kComp2, ev_comp2, ev_iSeq, ev_kIt, ev_iRange, ev_kRg, ev_enT, ev_enL, ev_iEnum, items_lst, items_tup, items_str, ev_true, ev_ret, ev_kRet, ev_expr, ev_kEx, ev_asg, ev_kAsg, ev_kNx, ev_seq, ev_kSeqN, ev_kSeqR, ev_kSeqB, ev_kSeqC, ev_ifS, ev_kIfST, ev_kIfSF, ev_for, ev_kFor, ev_next, ev_retN, ev_break, ev_cont, ev_par, ev_kPar, ev_par3, ev_kPar3, ev_gName, ev_gTup, ev_gsNil, ev_gsCons, ev_kGs, ev_gSub, ev_kSub, ev_kSub2, ev_kSub3, ev_kSub4, ev_mut, ev_kMu, ev_kMu2, ev_kMu3, ev_kMu4, ev_catM, ev_kCat, ev_kCat2, ev_catR, vw_non, vw_bl, vw_int, vw_str, vw_lst, vw_tup, vw_dct, vw_ref, vwO_lst, vwO_dct, tru_bl, tru_int, tru_lst, tru_tup, tru_non, add_int, add_lst, add_tup, add_str, sub_int, neg_int, gt_int, ge_int, lt_int, le_int, len_lst, len_tup, len_dct, len_str, int_int, tuple_lst, tuple_tup, list_lst, list_tup, sl_lst, sl_tup, is_non, isnt_non, non_bl, non_int, non_str, non_lst, non_tup, non_non, int_int?, ref_ref?, alt_tup, alt_lst, isi_int_non, isi_int_bl, isi_int_int, isi_int_str, isi_int_lst, isi_int_tup, isi_bool_non, isi_bool_bl, isi_bool_int, isi_bool_str, isi_bool_lst, isi_bool_tup, isi_str_non, isi_str_bl, isi_str_int, isi_str_str, isi_str_lst, isi_str_tup, isi_tuple_non, isi_tuple_bl, isi_tuple_int, isi_tuple_str, isi_tuple_lst, isi_tuple_tup, isi_list_non, isi_list_bl, isi_list_int, isi_list_str, isi_list_lst, isi_list_tup, isi_dict_non, isi_dict_bl, isi_dict_int, isi_dict_str, isi_dict_lst, isi_dict_tup, tyIn_lst2, tyD_lst, tyIn_tup2, tyD_tup, tyIn_str, tyD_str, tyIn_dct, tyD_dct, ev_cStep, ev_kC, ev_kC2T, ev_kC2F, ev_kSome, ev_cStep2, ev_kD, ev_kD2T, ev_kD2F, ev_kD3, ev_lStep, ev_kL, List.getElem?_cons_zero, List.getElem?_cons_succ, Option.join_some, Option.bind_some, Option.map_some, wipeE, List.set_cons_zero, List.set_cons_succ, List.length_cons, List.length_nil, List.map_cons, List.map_nil, gAll, gDef, List.cons_append, List.nil_append, if_true, if_false, Bool.not_true, Bool.not_false, Nat.zero_add, Nat.reduceAdd, Nat.reduceLeDiff, and_true, and_self, true_and, reduceIte, Bool.false_eq_true, $xs,*])
/-! ## programs -/
end SS
end
section
set_option Elab.async false
set_option linter.all false
set_option maxRecDepth 100000
set_option autoImplicit false
set_option maxHeartbeats 4000000
namespace SS
open PySem PySem.Spec PyProof.Rows L2 FL
local macro_rules
  | `(tactic| simp_arith only [$xs,*]) => `(tactic| simp (config := { implicitDefEqProofs := false }) only [tn_ok, oR_some, nx_ok, ev_var, ev_c, ev_bin, ev_kBin1, ev_kBin2, ev_un, ev_kUn, ev_asB, ev_kB, ev_asT, ev_kT, ev_tAnd2, ev_kAndT, ev_kAndF, ev_tOr2, ev_kOrT, ev_kOrF, ev_not, ev_kNot, ev_eAnd2, ev_kAndE, ev_kAndET, ev_kAndEF, ev_eOr2, ev_kOrE, ev_kOrET, ev_kOrEF, ev_eNot1, ev_kNotE, ev_kNotE2, ev_if, ev_kIfT, ev_kIfF, ev_aNil, ev_aCons, ev_kCons, ev_kCons2, ev_aStar, ev_kStar, ev_kStar2, ev_kStar3, ev_eTup, ev_kTup, ev_kTup2, ev_eLst, ev_kLst, ev_kLst2, ev_eNewL, ev_kNewL, ev_kNewL2, ev_newD, ev_callP, ev_kCallP, ev_call, ev_kCall, ev_kCall2, ev_oNone, ev_oSome, ev_kO, ev_kO2, ev_sl, ev_kSl, ev_kSl2, ev_kSl3, ev_sl3, ev_kT1, ev_kT2, ev_kT3, ev_kT4, ev_listRg, ev_kLR, ev_kLR2, ev_forM, ev_forMr, ev_forMl, ev_forMt, ev_forR, ev_meth, ev_kM, ev_kM2, ev_kM3, ev_meth0, ev_kM0, ev_chain, ev_kCh, ev_kCh2, ev_kCh3T, ev_kCh3F, ev_kCh4, ev_kLs, ev_kComp, ev_comp, ev_kRef, ev_compM, ev_kComp2, ev_comp2, ev_iSeq, ev_kIt, ev_iRange, ev_kRg, ev_enT, ev_enL, ev_iEnum, items_lst, items_tup, items_str, ev_true, ev_ret, ev_kRet, ev_expr, ev_kEx, ev_asg, ev_kAsg, ev_kNx, ev_seq, ev_kSeqN, ev_kSeqR, ev_kSeqB, ev_kSeqC, ev_ifS, ev_kIfST, ev_kIfSF, ev_for, ev_kFor, ev_next, ev_retN, ev_break, ev_cont, ev_par, ev_kPar, ev_par3, ev_kPar3, ev_gName, ev_gTup, ev_gsNil, ev_gsCons, ev_kGs, ev_gSub, ev_kSub, ev_kSub2, ev_kSub3, ev_kSub4, ev_mut, ev_kMu, ev_kMu2, ev_kMu3, ev_kMu4, ev_catM, ev_kCat, ev_kCat2, ev_catR, vw_non, vw_bl, vw_int, vw_str, vw_lst, vw_tup, vw_dct, vw_ref, vwO_lst, vwO_dct, tru_bl, tru_int, tru_lst, tru_tup, tru_non, add_int, add_lst, add_tup, add_str, sub_int, neg_int, gt_int, ge_int, lt_int, le_int, len_lst, len_tup, len_dct, len_str, int_int, tuple_lst, tuple_tup, list_lst, list_tup, sl_lst, sl_tup, is_non, isnt_non, non_bl, non_int, non_str, non_lst, non_tup, non_non, int_int?, ref_ref?, alt_tup, alt_lst, isi_int_non, isi_int_bl, isi_int_int, isi_int_str, isi_int_lst, isi_int_tup, isi_bool_non, isi_bool_bl, isi_bool_int, isi_bool_str, isi_bool_lst, isi_bool_tup, isi_str_non, isi_str_bl, isi_str_int, isi_str_str, isi_str_lst, isi_str_tup, isi_tuple_non, isi_tuple_bl, isi_tuple_int, isi_tuple_str, isi_tuple_lst, isi_tuple_tup, isi_list_non, isi_list_bl, isi_list_int, isi_list_str, isi_list_lst, isi_list_tup, isi_dict_non, isi_dict_bl, isi_dict_int, isi_dict_str, isi_dict_lst, isi_dict_tup, tyIn_lst2, tyD_lst, tyIn_tup2, tyD_tup, tyIn_str, tyD_str, tyIn_dct, tyD_dct, ev_cStep, ev_kC, ev_kC2T, ev_kC2F, ev_kSome, ev_cStep2, ev_kD, ev_kD2T, ev_kD2F, ev_kD3, ev_lStep, ev_kL, List.getElem?_cons_zero, List.getElem?_cons_succ, Option.join_some, Option.bind_some, Option.map_some, wipeE, List.set_cons_zero, List.set_cons_succ, List.length_cons, List.length_nil, List.map_cons, List.map_nil, gAll, gDef, List.cons_append, List.nil_append, if_true, if_false, Bool.not_true, Bool.not_false, Nat.zero_add, Nat.reduceAdd, Nat.reduceLeDiff, and_true, and_self, true_and, reduceIte, Bool.false_eq_true, $xs,*])
/-! ## a deed of each word -/
end SS
end
section
set_option Elab.async false
set_option linter.all false
set_option maxRecDepth 100000
set_option autoImplicit false
set_option maxHeartbeats 4000000
namespace SS
open PySem PySem.Spec PyProof.Rows L2 FL
local macro_rules
  | `(tactic| simp_arith only [$xs,*]) => `(tactic| simp (config := { implicitDefEqProofs := false }) only [tn_ok, oR_some, nx_ok, ev_var, ev_c, ev_bin, ev_kBin1, ev_kBin2, ev_un, ev_kUn, ev_asB, ev_kB, ev_asT, ev_kT, ev_tAnd2, ev_kAndT, ev_kAndF, ev_tOr2, ev_kOrT, ev_kOrF, ev_not, ev_kNot, ev_eAnd2, ev_kAndE, ev_kAndET, ev_kAndEF, ev_eOr2, ev_kOrE, ev_kOrET, ev_kOrEF, ev_eNot1, ev_kNotE, ev_kNotE2, ev_if, ev_kIfT, ev_kIfF, ev_aNil, ev_aCons, ev_kCons, ev_kCons2, ev_aStar, ev_kStar, ev_kStar2, ev_kStar3, ev_eTup, ev_kTup, ev_kTup2, ev_eLst, ev_kLst, ev_kLst2, ev_eNewL, ev_kNewL, ev_kNewL2, ev_newD, ev_callP, ev_kCallP, ev_call, ev_kCall, ev_kCall2, ev_oNone, ev_oSome, ev_kO, ev_kO2, ev_sl, ev_kSl, ev_kSl2, ev_kSl3, ev_sl3, ev_kT1, ev_kT2, ev_kT3, ev_kT4, ev_listRg, ev_kLR, ev_kLR2, ev_forM, ev_forMr, ev_forMl, ev_forMt, ev_forR, ev_meth, ev_kM, ev_kM2, ev_kM3, ev_meth0, ev_kM0, ev_chain, ev_kCh, ev_kCh2, ev_kCh3T, ev_kCh3F, ev_kCh4, ev_kLs, ev_kComp, ev_comp, ev_kRef, ev_compM, ev_kComp2, ev_comp2, ev_iSeq, ev_kIt, ev_iRange, ev_kRg, ev_enT, ev_enL, ev_iEnum, items_lst, items_tup, items_str, ev_true, ev_ret, ev_kRet, ev_expr, ev_kEx, ev_asg, ev_kAsg, ev_kNx, ev_seq, ev_kSeqN, ev_kSeqR, ev_kSeqB, ev_kSeqC, ev_ifS, ev_kIfST, ev_kIfSF, ev_for, ev_kFor, ev_next, ev_retN, ev_break, ev_cont, ev_par, ev_kPar, ev_par3, ev_kPar3, ev_gName, ev_gTup, ev_gsNil, ev_gsCons, ev_kGs, ev_gSub, ev_kSub, ev_kSub2, ev_kSub3, ev_kSub4, ev_mut, ev_kMu, ev_kMu2, ev_kMu3, ev_kMu4, ev_catM, ev_kCat, ev_kCat2, ev_catR, vw_non, vw_bl, vw_int, vw_str, vw_lst, vw_tup, vw_dct, vw_ref, vwO_lst, vwO_dct, tru_bl, tru_int, tru_lst, tru_tup, tru_non, add_int, add_lst, add_tup, add_str, sub_int, neg_int, gt_int, ge_int, lt_int, le_int, len_lst, len_tup, len_dct, len_str, int_int, tuple_lst, tuple_tup, list_lst, list_tup, sl_lst, sl_tup, is_non, isnt_non, non_bl, non_int, non_str, non_lst, non_tup, non_non, int_int?, ref_ref?, alt_tup, alt_lst, isi_int_non, isi_int_bl, isi_int_int, isi_int_str, isi_int_lst, isi_int_tup, isi_bool_non, isi_bool_bl, isi_bool_int, isi_bool_str, isi_bool_lst, isi_bool_tup, isi_str_non, isi_str_bl, isi_str_int, isi_str_str, isi_str_lst, isi_str_tup, isi_tuple_non, isi_tuple_bl, isi_tuple_int, isi_tuple_str, isi_tuple_lst, isi_tuple_tup, isi_list_non, isi_list_bl, isi_list_int, isi_list_str, isi_list_lst, isi_list_tup, isi_dict_non, isi_dict_bl, isi_dict_int, isi_dict_str, isi_dict_lst, isi_dict_tup, tyIn_lst2, tyD_lst, tyIn_tup2, tyD_tup, tyIn_str, tyD_str, tyIn_dct, tyD_dct, ev_cStep, ev_kC, ev_kC2T, ev_kC2F, ev_kSome, ev_cStep2, ev_kD, ev_kD2T, ev_kD2F, ev_kD3, ev_lStep, ev_kL, List.getElem?_cons_zero, List.getElem?_cons_succ, Option.join_some, Option.bind_some, Option.map_some, wipeE, List.set_cons_zero, List.set_cons_succ, List.length_cons, List.length_nil, List.map_cons, List.map_nil, gAll, gDef, List.cons_append, List.nil_append, if_true, if_false, Bool.not_true, Bool.not_false, Nat.zero_add, Nat.reduceAdd, Nat.reduceLeDiff, and_true, and_self, true_and, reduceIte, Bool.false_eq_true, $xs,*])
/-! ## names, numbers -/
def lowB (c : Nat) : Bool := decide (97 ≤ c) && decide (c ≤ 122)
def nmS (x : Str) : Bool := (decide (1 ≤ x.length) && decide (x.length ≤ 8)) && x.cps.toList.all lowB
mutual
def wdd : D → Bool
  | .lst xs => decide (xs.length ≤ 1000) && wdds xs
  | .tup xs => decide (xs.length ≤ 1000) && wdds xs
  | _ => true
def wdds : List D → Bool
  | [] => true
  | d :: ds => wdd d && wdds ds
end
theorem wdds_iff : ∀ ds : List D, wdds ds = true ↔ ∀ d ∈ ds, wdd d = true
  | [] => by simp [wdds]
  | d :: ds => by simp [wdds, wdds_iff ds]
/-- a plain value of bounded size -/
structure Pv (d : D) : Prop extends Rp 12 500000 d where
  wdd : wdd d = true
theorem Pv.len {x : Str} (h : Pv (.str x)) : x.length ≤ 500000 := by
  have := h.sz
  simp only [szb] at this
  omega
/-! ## the law's names -/
/-! ## numbers -/
end SS
end
section
set_option Elab.async false
set_option linter.all false
set_option maxRecDepth 100000
set_option autoImplicit false
set_option maxHeartbeats 4000000
namespace SS
open PySem PySem.Spec PyProof.Rows L2 FL
local macro_rules
  | `(tactic| simp_arith only [$xs,*]) => `(tactic| simp (config := { implicitDefEqProofs := false }) only [tn_ok, oR_some, nx_ok, ev_var, ev_c, ev_bin, ev_kBin1, ev_kBin2, ev_un, ev_kUn, ev_asB, ev_kB, ev_asT, ev_kT, ev_tAnd2, ev_kAndT, ev_kAndF, ev_tOr2, ev_kOrT, ev_kOrF, ev_not, ev_kNot, ev_eAnd2, ev_kAndE, ev_kAndET, ev_kAndEF, ev_eOr2, ev_kOrE, ev_kOrET, ev_kOrEF, ev_eNot1, ev_kNotE, ev_kNotE2, ev_if, ev_kIfT, ev_kIfF, ev_aNil, ev_aCons, ev_kCons, ev_kCons2, ev_aStar, ev_kStar, ev_kStar2, ev_kStar3, ev_eTup, ev_kTup, ev_kTup2, ev_eLst, ev_kLst, ev_kLst2, ev_eNewL, ev_kNewL, ev_kNewL2, ev_newD, ev_callP, ev_kCallP, ev_call, ev_kCall, ev_kCall2, ev_oNone, ev_oSome, ev_kO, ev_kO2, ev_sl, ev_kSl, ev_kSl2, ev_kSl3, ev_sl3, ev_kT1, ev_kT2, ev_kT3, ev_kT4, ev_listRg, ev_kLR, ev_kLR2, ev_forM, ev_forMr, ev_forMl, ev_forMt, ev_forR, ev_meth, ev_kM, ev_kM2, ev_kM3, ev_meth0, ev_kM0, ev_chain, ev_kCh, ev_kCh2, ev_kCh3T, ev_kCh3F, ev_kCh4, ev_kLs, ev_kComp, ev_comp, ev_kRef, ev_compM, ev_kComp2, ev_comp2, ev_iSeq, ev_kIt, ev_iRange, ev_kRg, ev_enT, ev_enL, ev_iEnum, items_lst, items_tup, items_str, ev_true, ev_ret, ev_kRet, ev_expr, ev_kEx, ev_asg, ev_kAsg, ev_kNx, ev_seq, ev_kSeqN, ev_kSeqR, ev_kSeqB, ev_kSeqC, ev_ifS, ev_kIfST, ev_kIfSF, ev_for, ev_kFor, ev_next, ev_retN, ev_break, ev_cont, ev_par, ev_kPar, ev_par3, ev_kPar3, ev_gName, ev_gTup, ev_gsNil, ev_gsCons, ev_kGs, ev_gSub, ev_kSub, ev_kSub2, ev_kSub3, ev_kSub4, ev_mut, ev_kMu, ev_kMu2, ev_kMu3, ev_kMu4, ev_catM, ev_kCat, ev_kCat2, ev_catR, vw_non, vw_bl, vw_int, vw_str, vw_lst, vw_tup, vw_dct, vw_ref, vwO_lst, vwO_dct, tru_bl, tru_int, tru_lst, tru_tup, tru_non, add_int, add_lst, add_tup, add_str, sub_int, neg_int, gt_int, ge_int, lt_int, le_int, len_lst, len_tup, len_dct, len_str, int_int, tuple_lst, tuple_tup, list_lst, list_tup, sl_lst, sl_tup, is_non, isnt_non, non_bl, non_int, non_str, non_lst, non_tup, non_non, int_int?, ref_ref?, alt_tup, alt_lst, isi_int_non, isi_int_bl, isi_int_int, isi_int_str, isi_int_lst, isi_int_tup, isi_bool_non, isi_bool_bl, isi_bool_int, isi_bool_str, isi_bool_lst, isi_bool_tup, isi_str_non, isi_str_bl, isi_str_int, isi_str_str, isi_str_lst, isi_str_tup, isi_tuple_non, isi_tuple_bl, isi_tuple_int, isi_tuple_str, isi_tuple_lst, isi_tuple_tup, isi_list_non, isi_list_bl, isi_list_int, isi_list_str, isi_list_lst, isi_list_tup, isi_dict_non, isi_dict_bl, isi_dict_int, isi_dict_str, isi_dict_lst, isi_dict_tup, tyIn_lst2, tyD_lst, tyIn_tup2, tyD_tup, tyIn_str, tyD_str, tyIn_dct, tyD_dct, ev_cStep, ev_kC, ev_kC2T, ev_kC2F, ev_kSome, ev_cStep2, ev_kD, ev_kD2T, ev_kD2F, ev_kD3, ev_lStep, ev_kL, List.getElem?_cons_zero, List.getElem?_cons_succ, Option.join_some, Option.bind_some, Option.map_some, wipeE, List.set_cons_zero, List.set_cons_succ, List.length_cons, List.length_nil, List.map_cons, List.map_nil, gAll, gDef, List.cons_append, List.nil_append, if_true, if_false, Bool.not_true, Bool.not_false, Nat.zero_add, Nat.reduceAdd, Nat.reduceLeDiff, and_true, and_self, true_and, reduceIte, Bool.false_eq_true, $xs,*])
/-! ## dicts of the module -/
/-! ## parts of a value -/
theorem szbs_mem : ∀ {ds : List D} {d : D}, d ∈ ds → szb d ≤ szbs ds
  | e :: ds, d, h => by
    rw [szbs]
    rcases List.mem_cons.mp h with rfl | h
    · omega
    · have := szbs_mem h
      omega
theorem Pv.sub {ds : List D} {d : D} (h : Pv (.tup ds)) (hd : d ∈ ds) : Pv d := by
  obtain ⟨⟨h1, h2, h3, h4⟩, h5⟩ := h
  refine ⟨⟨?_, ?_, ?_, ?_⟩, ?_⟩
  · exact (nps_iff ds).mp (by simpa [SS.np] using h1) d hd
  · have := (deps_le ds).mp (Nat.le_refl (deps ds)) d hd
    simp only [dep] at h2
    omega
  · exact (smbs_iff ds).mp (by simpa [smb] using h3) d hd
  · have := szbs_mem hd
    simp only [szb] at h4
    omega
  · simp only [SS.wdd, Bool.and_eq_true] at h5
    exact (wdds_iff ds).mp h5.2 d hd
/-! ## deeds -/
theorem zipD_tup (xs ys : List D) : zipD [.tup xs, .tup ys] = some (zipL xs ys) := rfl
end SS
end
section
set_option Elab.async false
set_option linter.all false
set_option maxRecDepth 100000
set_option autoImplicit false
set_option maxHeartbeats 4000000
namespace SS
open PySem PySem.Spec PyProof.Rows L2 FL
local macro_rules
  | `(tactic| simp_arith only [$xs,*]) => `(tactic| simp (config := { implicitDefEqProofs := false }) only [tn_ok, oR_some, nx_ok, ev_var, ev_c, ev_bin, ev_kBin1, ev_kBin2, ev_un, ev_kUn, ev_asB, ev_kB, ev_asT, ev_kT, ev_tAnd2, ev_kAndT, ev_kAndF, ev_tOr2, ev_kOrT, ev_kOrF, ev_not, ev_kNot, ev_eAnd2, ev_kAndE, ev_kAndET, ev_kAndEF, ev_eOr2, ev_kOrE, ev_kOrET, ev_kOrEF, ev_eNot1, ev_kNotE, ev_kNotE2, ev_if, ev_kIfT, ev_kIfF, ev_aNil, ev_aCons, ev_kCons, ev_kCons2, ev_aStar, ev_kStar, ev_kStar2, ev_kStar3, ev_eTup, ev_kTup, ev_kTup2, ev_eLst, ev_kLst, ev_kLst2, ev_eNewL, ev_kNewL, ev_kNewL2, ev_newD, ev_callP, ev_kCallP, ev_call, ev_kCall, ev_kCall2, ev_oNone, ev_oSome, ev_kO, ev_kO2, ev_sl, ev_kSl, ev_kSl2, ev_kSl3, ev_sl3, ev_kT1, ev_kT2, ev_kT3, ev_kT4, ev_listRg, ev_kLR, ev_kLR2, ev_forM, ev_forMr, ev_forMl, ev_forMt, ev_forR, ev_meth, ev_kM, ev_kM2, ev_kM3, ev_meth0, ev_kM0, ev_chain, ev_kCh, ev_kCh2, ev_kCh3T, ev_kCh3F, ev_kCh4, ev_kLs, ev_kComp, ev_comp, ev_kRef, ev_compM, ev_kComp2, ev_comp2, ev_iSeq, ev_kIt, ev_iRange, ev_kRg, ev_enT, ev_enL, ev_iEnum, items_lst, items_tup, items_str, ev_true, ev_ret, ev_kRet, ev_expr, ev_kEx, ev_asg, ev_kAsg, ev_kNx, ev_seq, ev_kSeqN, ev_kSeqR, ev_kSeqB, ev_kSeqC, ev_ifS, ev_kIfST, ev_kIfSF, ev_for, ev_kFor, ev_next, ev_retN, ev_break, ev_cont, ev_par, ev_kPar, ev_par3, ev_kPar3, ev_gName, ev_gTup, ev_gsNil, ev_gsCons, ev_kGs, ev_gSub, ev_kSub, ev_kSub2, ev_kSub3, ev_kSub4, ev_mut, ev_kMu, ev_kMu2, ev_kMu3, ev_kMu4, ev_catM, ev_kCat, ev_kCat2, ev_catR, vw_non, vw_bl, vw_int, vw_str, vw_lst, vw_tup, vw_dct, vw_ref, vwO_lst, vwO_dct, tru_bl, tru_int, tru_lst, tru_tup, tru_non, add_int, add_lst, add_tup, add_str, sub_int, neg_int, gt_int, ge_int, lt_int, le_int, len_lst, len_tup, len_dct, len_str, int_int, tuple_lst, tuple_tup, list_lst, list_tup, sl_lst, sl_tup, is_non, isnt_non, non_bl, non_int, non_str, non_lst, non_tup, non_non, int_int?, ref_ref?, alt_tup, alt_lst, isi_int_non, isi_int_bl, isi_int_int, isi_int_str, isi_int_lst, isi_int_tup, isi_bool_non, isi_bool_bl, isi_bool_int, isi_bool_str, isi_bool_lst, isi_bool_tup, isi_str_non, isi_str_bl, isi_str_int, isi_str_str, isi_str_lst, isi_str_tup, isi_tuple_non, isi_tuple_bl, isi_tuple_int, isi_tuple_str, isi_tuple_lst, isi_tuple_tup, isi_list_non, isi_list_bl, isi_list_int, isi_list_str, isi_list_lst, isi_list_tup, isi_dict_non, isi_dict_bl, isi_dict_int, isi_dict_str, isi_dict_lst, isi_dict_tup, tyIn_lst2, tyD_lst, tyIn_tup2, tyD_tup, tyIn_str, tyD_str, tyIn_dct, tyD_dct, ev_cStep, ev_kC, ev_kC2T, ev_kC2F, ev_kSome, ev_cStep2, ev_kD, ev_kD2T, ev_kD2F, ev_kD3, ev_lStep, ev_kL, List.getElem?_cons_zero, List.getElem?_cons_succ, Option.join_some, Option.bind_some, Option.map_some, wipeE, List.set_cons_zero, List.set_cons_succ, List.length_cons, List.length_nil, List.map_cons, List.map_nil, gAll, gDef, List.cons_append, List.nil_append, if_true, if_false, Bool.not_true, Bool.not_false, Nat.zero_add, Nat.reduceAdd, Nat.reduceLeDiff, and_true, and_self, true_and, reduceIte, Bool.false_eq_true, $xs,*])
/-! ## tuples of a length, arrows -/
/-! ## the law's deeds -/
end SS
end
section
set_option Elab.async false
set_option linter.all false
set_option maxRecDepth 100000
set_option autoImplicit false
set_option maxHeartbeats 4000000
namespace SS
open PySem PySem.Spec PyProof.Rows L2 FL
local macro_rules
  | `(tactic| simp_arith only [$xs,*]) => `(tactic| simp (config := { implicitDefEqProofs := false }) only [tn_ok, oR_some, nx_ok, ev_var, ev_c, ev_bin, ev_kBin1, ev_kBin2, ev_un, ev_kUn, ev_asB, ev_kB, ev_asT, ev_kT, ev_tAnd2, ev_kAndT, ev_kAndF, ev_tOr2, ev_kOrT, ev_kOrF, ev_not, ev_kNot, ev_eAnd2, ev_kAndE, ev_kAndET, ev_kAndEF, ev_eOr2, ev_kOrE, ev_kOrET, ev_kOrEF, ev_eNot1, ev_kNotE, ev_kNotE2, ev_if, ev_kIfT, ev_kIfF, ev_aNil, ev_aCons, ev_kCons, ev_kCons2, ev_aStar, ev_kStar, ev_kStar2, ev_kStar3, ev_eTup, ev_kTup, ev_kTup2, ev_eLst, ev_kLst, ev_kLst2, ev_eNewL, ev_kNewL, ev_kNewL2, ev_newD, ev_callP, ev_kCallP, ev_call, ev_kCall, ev_kCall2, ev_oNone, ev_oSome, ev_kO, ev_kO2, ev_sl, ev_kSl, ev_kSl2, ev_kSl3, ev_sl3, ev_kT1, ev_kT2, ev_kT3, ev_kT4, ev_listRg, ev_kLR, ev_kLR2, ev_forM, ev_forMr, ev_forMl, ev_forMt, ev_forR, ev_meth, ev_kM, ev_kM2, ev_kM3, ev_meth0, ev_kM0, ev_chain, ev_kCh, ev_kCh2, ev_kCh3T, ev_kCh3F, ev_kCh4, ev_kLs, ev_kComp, ev_comp, ev_kRef, ev_compM, ev_kComp2, ev_comp2, ev_iSeq, ev_kIt, ev_iRange, ev_kRg, ev_enT, ev_enL, ev_iEnum, items_lst, items_tup, items_str, ev_true, ev_ret, ev_kRet, ev_expr, ev_kEx, ev_asg, ev_kAsg, ev_kNx, ev_seq, ev_kSeqN, ev_kSeqR, ev_kSeqB, ev_kSeqC, ev_ifS, ev_kIfST, ev_kIfSF, ev_for, ev_kFor, ev_next, ev_retN, ev_break, ev_cont, ev_par, ev_kPar, ev_par3, ev_kPar3, ev_gName, ev_gTup, ev_gsNil, ev_gsCons, ev_kGs, ev_gSub, ev_kSub, ev_kSub2, ev_kSub3, ev_kSub4, ev_mut, ev_kMu, ev_kMu2, ev_kMu3, ev_kMu4, ev_catM, ev_kCat, ev_kCat2, ev_catR, vw_non, vw_bl, vw_int, vw_str, vw_lst, vw_tup, vw_dct, vw_ref, vwO_lst, vwO_dct, tru_bl, tru_int, tru_lst, tru_tup, tru_non, add_int, add_lst, add_tup, add_str, sub_int, neg_int, gt_int, ge_int, lt_int, le_int, len_lst, len_tup, len_dct, len_str, int_int, tuple_lst, tuple_tup, list_lst, list_tup, sl_lst, sl_tup, is_non, isnt_non, non_bl, non_int, non_str, non_lst, non_tup, non_non, int_int?, ref_ref?, alt_tup, alt_lst, isi_int_non, isi_int_bl, isi_int_int, isi_int_str, isi_int_lst, isi_int_tup, isi_bool_non, isi_bool_bl, isi_bool_int, isi_bool_str, isi_bool_lst, isi_bool_tup, isi_str_non, isi_str_bl, isi_str_int, isi_str_str, isi_str_lst, isi_str_tup, isi_tuple_non, isi_tuple_bl, isi_tuple_int, isi_tuple_str, isi_tuple_lst, isi_tuple_tup, isi_list_non, isi_list_bl, isi_list_int, isi_list_str, isi_list_lst, isi_list_tup, isi_dict_non, isi_dict_bl, isi_dict_int, isi_dict_str, isi_dict_lst, isi_dict_tup, tyIn_lst2, tyD_lst, tyIn_tup2, tyD_tup, tyIn_str, tyD_str, tyIn_dct, tyD_dct, ev_cStep, ev_kC, ev_kC2T, ev_kC2F, ev_kSome, ev_cStep2, ev_kD, ev_kD2T, ev_kD2F, ev_kD3, ev_lStep, ev_kL, List.getElem?_cons_zero, List.getElem?_cons_succ, Option.join_some, Option.bind_some, Option.map_some, wipeE, List.set_cons_zero, List.set_cons_succ, List.length_cons, List.length_nil, List.map_cons, List.map_nil, gAll, gDef, List.cons_append, List.nil_append, if_true, if_false, Bool.not_true, Bool.not_false, Nat.zero_add, Nat.reduceAdd, Nat.reduceLeDiff, and_true, and_self, true_and, reduceIte, Bool.false_eq_true, $xs,*])
/-! ## deeds by their forms -/
inductive Dd where
  | cnt (w x : Str) (k : Int)
  | one (w x : Str)
  | two (w x y : Str)
  | doo (x : Str)
def Dd.d : Dd → D
  | .cnt w x k => .tup [.str w, .str x, .int k]
  | .one w x => .tup [.str w, .str x]
  | .two w x y => .tup [.str w, .str x, .str y]
  | .doo x => .tup [.str "do", .str x]
def Dd.Ok : Dd → Prop
  | .cnt w x k => w ∈ (["rise", "spare"] : List Str) ∧ nmS x = true ∧ 1 ≤ k
  | .one w x => w ∈ (["keep", "same", "other"] : List Str) ∧ nmS x = true
  | .two w x y => w ∈ (["copy", "agree", "differ", "newer", "elder"] : List Str) ∧ nmS x = true ∧ nmS y = true
  | .doo x => nmS x = true
/-! ## arrows with their spares filled -/
/-! ## names that rise -/
theorem zipL_maps {α β : Type} (f : α → D) (g : β → D) : ∀ (xs : List α) (ys : List β), zipL (xs.map f) (ys.map g) = (xs.zip ys).map fun q => .tup [f q.1, g q.2]
  | [], _ => by simp [zipL]
  | _ :: _, [] => by simp [zipL]
  | x :: xs, y :: ys => by
    show D.tup [f x, g y] :: zipL (xs.map f) (ys.map g) = _
    rw [zipL_maps f g xs ys]
    rfl
/-! ## the same by sorting -/
end SS
end
section
set_option linter.all false
set_option autoImplicit false
namespace SS
/-! Divisors, closed sets of divisors, least ones, multiples (plain). -/
theorem pw_ext : ∀ {xs ys : List Nat}, xs.Pairwise (· < ·) → ys.Pairwise (· < ·) → (∀ a, a ∈ xs ↔ a ∈ ys) → xs = ys
  | [], [], _, _, _ => rfl
  | [], y :: ys, _, _, h => absurd ((h y).mpr List.mem_cons_self) (by simp)
  | x :: xs, [], _, _, h => absurd ((h x).mp List.mem_cons_self) (by simp)
  | x :: xs, y :: ys, h1, h2, h => by
    rw [List.pairwise_cons] at h1 h2
    have e : x = y := by
      rcases List.mem_cons.mp ((h x).mp List.mem_cons_self) with e | m
      · exact e
      · rcases List.mem_cons.mp ((h y).mpr List.mem_cons_self) with e | m'
        · exact e.symm
        · exact absurd (Nat.lt_trans (h2.1 x m) (h1.1 y m')) (Nat.lt_irrefl _)
    subst e
    rw [pw_ext h1.2 h2.2 fun a => ?_]
    constructor
    · intro m
      rcases List.mem_cons.mp ((h a).mp (List.mem_cons_of_mem _ m)) with e | m'
      · subst e; exact absurd (h1.1 a m) (Nat.lt_irrefl _)
      · exact m'
    · intro m
      rcases List.mem_cons.mp ((h a).mpr (List.mem_cons_of_mem _ m)) with e | m'
      · subst e; exact absurd (h2.1 a m) (Nat.lt_irrefl _)
      · exact m'
/-- the divisors, ascending -/
def divs (P : Nat) : List Nat := (List.range' 1 P).filter fun d => P % d == 0
theorem mem_divs {P d : Nat} (h : 0 < P) : d ∈ divs P ↔ d ∣ P := by
  unfold divs
  rw [List.mem_filter, List.mem_range'_1]
  constructor
  · intro ⟨_, z⟩
    exact Nat.dvd_of_mod_eq_zero (by simpa using z)
  · intro z
    have := Nat.le_of_dvd h z
    have := Nat.pos_of_dvd_of_pos z h
    exact ⟨⟨by omega, by omega⟩, by simpa using Nat.mod_eq_zero_of_dvd z⟩
theorem divs_pw (P : Nat) : (divs P).Pairwise (· < ·) := (List.pairwise_lt_range' (s := 1) (n := P)).sublist List.filter_sublist
/-- a multiple of one of them -/
def mulOf (L : List Nat) (n : Nat) : Bool := L.any fun l => n % l == 0
theorem mulOf_iff {L : List Nat} {n : Nat} : mulOf L n = true ↔ ∃ l ∈ L, l ∣ n := by
  unfold mulOf
  rw [List.any_eq_true]
  constructor
  · intro ⟨l, h1, h2⟩; exact ⟨l, h1, Nat.dvd_of_mod_eq_zero (by simpa using h2)⟩
  · intro ⟨l, h1, h2⟩; exact ⟨l, h1, by simpa using Nat.mod_eq_zero_of_dvd h2⟩
/-- a closed set of divisors -/
structure Clo (P : Nat) (G : List Nat) : Prop where
  pos : 0 < P
  pw : G.Pairwise (· < ·)
  dv : ∀ d ∈ G, d ∣ P
  up : ∀ d ∈ G, ∀ e, d ∣ e → e ∣ P → e ∈ G
theorem Clo.gpos {P : Nat} {G : List Nat} (h : Clo P G) {d : Nat} (hd : d ∈ G) : 0 < d := Nat.pos_of_dvd_of_pos (h.dv d hd) h.pos
def goods (P : Nat) (L : List Nat) : List Nat := (divs P).filter (mulOf L)
theorem goods_clo {P : Nat} (hP : 0 < P) (L : List Nat) : Clo P (goods P L) := by
  refine ⟨hP, (divs_pw P).sublist List.filter_sublist, fun d hd => (mem_divs hP).mp (List.mem_filter.mp hd).1, fun d hd e h1 h2 => ?_⟩
  obtain ⟨l, hl, hz⟩ := mulOf_iff.mp (List.mem_filter.mp hd).2
  exact List.mem_filter.mpr ⟨(mem_divs hP).mpr h2, mulOf_iff.mpr ⟨l, hl, Nat.dvd_trans hz h1⟩⟩
/-- those that no lesser one divides -/
def leasts (G : List Nat) : List Nat := G.filter fun d => !(G.any fun e => decide (e < d) && d % e == 0)
theorem mem_leasts {G : List Nat} {d : Nat} : d ∈ leasts G ↔ d ∈ G ∧ ∀ e ∈ G, e < d → ¬ e ∣ d := by
  unfold leasts
  rw [List.mem_filter, Bool.not_eq_true', List.any_eq_false]
  constructor
  · intro ⟨h1, h2⟩
    refine ⟨h1, fun e he hl hd => h2 e he ?_⟩
    simp [hl, Nat.mod_eq_zero_of_dvd hd]
  · intro ⟨h1, h2⟩
    refine ⟨h1, fun e he z => ?_⟩
    simp only [Bool.and_eq_true, decide_eq_true_eq, beq_iff_eq] at z
    exact h2 e he z.1 (Nat.dvd_of_mod_eq_zero z.2)
theorem least_below {G : List Nat} (gp : ∀ d ∈ G, 0 < d) : ∀ (n d : Nat), d ≤ n → d ∈ G → ∃ l ∈ leasts G, l ∣ d
  | 0, d, h, hd => absurd (gp d hd) (by omega)
  | n + 1, d, h, hd => by
    by_cases q : ∃ e ∈ G, e < d ∧ e ∣ d
    · obtain ⟨e, he, hl, hz⟩ := q
      obtain ⟨l, h1, h2⟩ := least_below gp n e (by omega) he
      exact ⟨l, h1, Nat.dvd_trans h2 hz⟩
    · exact ⟨d, mem_leasts.mpr ⟨hd, fun e he hl hz => q ⟨e, he, hl, hz⟩⟩, Nat.dvd_refl d⟩
section
variable {P : Nat} {G : List Nat}
theorem Clo.mem_iff (h : Clo P G) {d : Nat} (hd : d ∣ P) : d ∈ G ↔ ∃ l ∈ leasts G, l ∣ d := by
  constructor
  · intro m
    exact least_below (fun _ q => h.gpos q) d d (Nat.le_refl _) m
  · intro ⟨l, hl, hz⟩
    exact h.up l (mem_leasts.mp hl).1 d hz hd
theorem Clo.gcd_iff (h : Clo P G) (n : Nat) : Nat.gcd n P ∈ G ↔ ∃ l ∈ leasts G, l ∣ n := by
  rw [h.mem_iff (Nat.gcd_dvd_right n P)]
  constructor
  · intro ⟨l, hl, hz⟩; exact ⟨l, hl, Nat.dvd_trans hz (Nat.gcd_dvd_left n P)⟩
  · intro ⟨l, hl, hz⟩; exact ⟨l, hl, Nat.dvd_gcd hz (h.dv l (mem_leasts.mp hl).1)⟩
/-- the least common multiple of some -/
def lcmL (L : List Nat) : Nat := L.foldl Nat.lcm 1
theorem fold_lcm : ∀ (L : List Nat) (a : Nat), a ∣ L.foldl Nat.lcm a ∧ (∀ l ∈ L, l ∣ L.foldl Nat.lcm a) ∧ ∀ m, a ∣ m → (∀ l ∈ L, l ∣ m) → L.foldl Nat.lcm a ∣ m
  | [], a => ⟨Nat.dvd_refl _, by simp, fun _ h _ => h⟩
  | x :: L, a => by
    obtain ⟨h1, h2, h3⟩ := fold_lcm L (Nat.lcm a x)
    rw [List.foldl_cons]
    refine ⟨Nat.dvd_trans (Nat.dvd_lcm_left a x) h1, fun l hl => ?_, fun m ha hm => h3 m (Nat.lcm_dvd ha (hm x List.mem_cons_self)) fun l hl => hm l (List.mem_cons_of_mem _ hl)⟩
    rcases List.mem_cons.mp hl with rfl | hl
    · exact Nat.dvd_trans (Nat.dvd_lcm_right a l) h1
    · exact h2 l hl
theorem lcmL_dvd {L : List Nat} {m : Nat} (h : ∀ l ∈ L, l ∣ m) : lcmL L ∣ m := (fold_lcm L 1).2.2 m (Nat.one_dvd m) h
theorem dvd_lcmL {L : List Nat} {l : Nat} (h : l ∈ L) : l ∣ lcmL L := (fold_lcm L 1).2.1 l h
theorem Clo.whole (h : Clo P G) : lcmL (leasts G) ∣ P := lcmL_dvd fun l hl => h.dv l (mem_leasts.mp hl).1
theorem Clo.wpos (h : Clo P G) : 0 < lcmL (leasts G) := Nat.pos_of_dvd_of_pos h.whole h.pos
/-- the divisors told with the least period -/
def late (G : List Nat) : List Nat := goods (lcmL (leasts G)) (leasts G)
theorem Clo.mem_late (h : Clo P G) {d : Nat} : d ∈ late G ↔ d ∈ G ∧ d ∣ lcmL (leasts G) := by
  unfold late goods
  rw [List.mem_filter, mem_divs h.wpos, mulOf_iff]
  constructor
  · intro ⟨h1, h2⟩; exact ⟨(h.mem_iff (Nat.dvd_trans h1 h.whole)).mpr h2, h1⟩
  · intro ⟨h1, h2⟩; exact ⟨h2, (h.mem_iff (h.dv d h1)).mp h1⟩
theorem Clo.late_clo (h : Clo P G) : Clo (lcmL (leasts G)) (late G) := goods_clo h.wpos _
theorem Clo.late_eq (h : Clo P G) : late G = G.filter fun d => lcmL (leasts G) % d == 0 := by
  refine pw_ext h.late_clo.pw (h.pw.sublist List.filter_sublist) fun a => ?_
  rw [h.mem_late, List.mem_filter]
  constructor
  · intro ⟨h1, h2⟩; exact ⟨h1, by simpa using Nat.mod_eq_zero_of_dvd h2⟩
  · intro ⟨h1, h2⟩; exact ⟨h1, Nat.dvd_of_mod_eq_zero (by simpa using h2)⟩
theorem Clo.leasts_late (h : Clo P G) : leasts (late G) = leasts G := by
  refine pw_ext (h.late_clo.pw.sublist List.filter_sublist) (h.pw.sublist List.filter_sublist) fun a => ?_
  rw [mem_leasts, mem_leasts]
  constructor
  · intro ⟨h1, h2⟩
    have m := h.mem_late.mp h1
    refine ⟨m.1, fun e he hl hz => h2 e (h.mem_late.mpr ⟨he, Nat.dvd_trans hz m.2⟩) hl hz⟩
  · intro ⟨h1, h2⟩
    have m : a ∈ leasts G := mem_leasts.mpr ⟨h1, h2⟩
    exact ⟨h.mem_late.mpr ⟨h1, dvd_lcmL m⟩, fun e he => h2 e (h.mem_late.mp he).1⟩
theorem Clo.gcd_late (h : Clo P G) (n : Nat) : Nat.gcd n (lcmL (leasts G)) ∈ late G ↔ Nat.gcd n P ∈ G := by
  rw [h.late_clo.gcd_iff, h.leasts_late, h.gcd_iff]
theorem Clo.late_nil (h : Clo P G) : late G = [] ↔ G = [] := by
  constructor
  · intro e
    cases G with
    | nil => rfl
    | cons g G =>
      obtain ⟨l, hl, _⟩ := (h.mem_iff (h.dv g List.mem_cons_self)).mp List.mem_cons_self
      have : l ∈ late (g :: G) := h.mem_late.mpr ⟨(mem_leasts.mp hl).1, dvd_lcmL hl⟩
      rw [e] at this
      cases this
  · intro e
    subst e
    rfl
/-- one is in it: all are -/
theorem Clo.one (h : Clo P G) (h1 : 1 ∈ G) : late G = [1] := by
  have l1 : leasts G = [1] := by
    refine pw_ext (h.pw.sublist List.filter_sublist) (List.pairwise_singleton _ _) fun a => ?_
    rw [mem_leasts, List.mem_singleton]
    constructor
    · intro ⟨a1, a2⟩
      have p := h.gpos a1
      rcases Nat.lt_or_ge 1 a with z | z
      · exact absurd (Nat.one_dvd a) (a2 1 h1 z)
      · omega
    · intro e
      subst e
      exact ⟨h1, fun e he hl => absurd (h.gpos he) (by omega)⟩
  unfold late
  rw [l1]
  decide
theorem Clo.not_one (h : Clo P G) (h1 : 1 ∉ G) : late G ≠ [1] := fun e => by
  have : 1 ∈ late G := by rw [e]; simp
  exact h1 (h.mem_late.mp this).1
end
end SS
end
section
set_option linter.all false
set_option autoImplicit false
namespace SS
/-! Counting multiples (plain). -/
/-- how many numbers from 1 to n are so -/
def cnt (f : Nat → Bool) (n : Nat) : Nat := ((List.range' 1 n).filter f).length
theorem cnt_0 (f : Nat → Bool) : cnt f 0 = 0 := rfl
theorem cnt_s (f : Nat → Bool) (n : Nat) : cnt f (n + 1) = cnt f n + (if f (n + 1) = true then 1 else 0) := by
  unfold cnt
  rw [List.range'_concat, List.filter_append, List.length_append, show 1 + 1 * n = n + 1 by omega]
  by_cases h : f (n + 1) = true
  · rw [if_pos h, List.filter_cons_of_pos h]; rfl
  · rw [if_neg h, List.filter_cons_of_neg h]; rfl
theorem cnt_mono (f : Nat → Bool) {n m : Nat} (h : n ≤ m) : cnt f n ≤ cnt f m := by
  obtain ⟨d, rfl⟩ := Nat.exists_eq_add_of_le h
  clear h
  induction d with
  | zero => exact Nat.le_refl _
  | succ d ih => rw [← Nat.add_assoc, cnt_s]; omega
theorem cnt_congr {f g : Nat → Bool} : ∀ n, (∀ m, 1 ≤ m → m ≤ n → f m = g m) → cnt f n = cnt g n
  | 0, _ => rfl
  | n + 1, h => by rw [cnt_s, cnt_s, cnt_congr n fun m a b => h m a (by omega), h (n + 1) (by omega) (Nat.le_refl _)]
theorem cnt_split (f g : Nat → Bool) : ∀ n, cnt f n = cnt (fun m => f m && g m) n + cnt (fun m => f m && !g m) n
  | 0 => rfl
  | n + 1 => by
    have ih := cnt_split f g n
    rw [cnt_s, cnt_s, cnt_s, ih]
    cases f (n + 1) <;> cases g (n + 1) <;> simp <;> omega
theorem cnt_dvd {c : Nat} (hc : 0 < c) : ∀ n, cnt (fun m => m % c == 0) n = n / c
  | 0 => by rw [cnt_0, Nat.zero_div]
  | n + 1 => by
    rw [cnt_s, cnt_dvd hc n]
    have e1 := Nat.div_add_mod n c
    have l1 := Nat.mod_lt n hc
    have e2 := Nat.div_add_mod (n + 1) c
    have l2 := Nat.mod_lt (n + 1) hc
    by_cases h : (n + 1) % c = 0
    · rw [if_pos (by simpa using h)]
      rw [h] at e2
      have k1 : c * (n / c) < c * ((n + 1) / c) := by omega
      have k2 := Nat.lt_of_mul_lt_mul_left k1
      have k3 : c * ((n + 1) / c) < c * (n / c + 2) := by rw [Nat.mul_add]; omega
      have k4 := Nat.lt_of_mul_lt_mul_left k3
      omega
    · rw [if_neg (by simpa using h)]
      have k1 : c * (n / c) < c * ((n + 1) / c + 1) := by rw [Nat.mul_add]; omega
      have k2 := Nat.lt_of_mul_lt_mul_left k1
      have k3 : c * ((n + 1) / c) < c * (n / c + 1) := by rw [Nat.mul_add]; omega
      have k4 := Nat.lt_of_mul_lt_mul_left k3
      omega
/-- multiples of a base and of one of some -/
def mulTo : List Nat → Nat → Nat → Nat
  | [], _, _ => 0
  | l :: L, b, n => (if Nat.lcm b l ≤ n then n / Nat.lcm b l - mulTo L (Nat.lcm b l) n else 0) + mulTo L b n
theorem mod_lcm {b l m : Nat} : (m % Nat.lcm b l == 0) = (m % b == 0 && m % l == 0) := by
  rw [Bool.eq_iff_iff, Bool.and_eq_true, beq_iff_eq, beq_iff_eq, beq_iff_eq]
  constructor
  · intro h
    have d := Nat.dvd_of_mod_eq_zero h
    exact ⟨Nat.mod_eq_zero_of_dvd (Nat.dvd_trans (Nat.dvd_lcm_left b l) d), Nat.mod_eq_zero_of_dvd (Nat.dvd_trans (Nat.dvd_lcm_right b l) d)⟩
  · intro ⟨h1, h2⟩
    exact Nat.mod_eq_zero_of_dvd (Nat.lcm_dvd (Nat.dvd_of_mod_eq_zero h1) (Nat.dvd_of_mod_eq_zero h2))
theorem mulTo_cnt : ∀ (L : List Nat) (b n : Nat), 0 < b → (∀ l ∈ L, 0 < l) → mulTo L b n = cnt (fun m => m % b == 0 && mulOf L m) n
  | [], b, n, _, _ => by
    have : cnt (fun m => m % b == 0 && mulOf [] m) n = cnt (fun _ => false) n := cnt_congr n fun m _ _ => by simp [mulOf]
    rw [this]
    have z : cnt (fun _ => false) n = 0 := by unfold cnt; rw [List.filter_eq_nil_iff.mpr (by simp)]; rfl
    rw [z]
    rfl
  | l :: L, b, n, hb, hl => by
    have hl0 := hl l List.mem_cons_self
    have hc : 0 < Nat.lcm b l := Nat.lcm_pos hb hl0
    have ih1 := mulTo_cnt L (Nat.lcm b l) n hc fun x hx => hl x (List.mem_cons_of_mem _ hx)
    have ih2 := mulTo_cnt L b n hb fun x hx => hl x (List.mem_cons_of_mem _ hx)
    -- those of the head alone
    have s1 := cnt_split (fun m => m % Nat.lcm b l == 0) (mulOf L) n
    rw [cnt_dvd hc] at s1
    have s2 := cnt_split (fun m => m % b == 0 && mulOf (l :: L) m) (mulOf L) n
    have t1 : cnt (fun m => (m % b == 0 && mulOf (l :: L) m) && mulOf L m) n = cnt (fun m => m % b == 0 && mulOf L m) n := cnt_congr n fun m _ _ => by
      have : mulOf (l :: L) m = (m % l == 0 || mulOf L m) := rfl
      rw [this]
      cases m % b == 0 <;> cases m % l == 0 <;> cases mulOf L m <;> rfl
    have t2 : cnt (fun m => (m % b == 0 && mulOf (l :: L) m) && !mulOf L m) n = cnt (fun m => (m % Nat.lcm b l == 0) && !mulOf L m) n := cnt_congr n fun m _ _ => by
      have : mulOf (l :: L) m = (m % l == 0 || mulOf L m) := rfl
      rw [this, mod_lcm]
      cases m % b == 0 <;> cases m % l == 0 <;> cases mulOf L m <;> rfl
    rw [t1, t2] at s2
    show (if Nat.lcm b l ≤ n then n / Nat.lcm b l - mulTo L (Nat.lcm b l) n else 0) + mulTo L b n = _
    rw [s2, ih1, ih2]
    by_cases h : Nat.lcm b l ≤ n
    · rw [if_pos h]; omega
    · rw [if_neg h]
      rw [Nat.div_eq_of_lt (by omega)] at s1
      omega
theorem mulTo_le (L : List Nat) (b n : Nat) (hb : 0 < b) (hl : ∀ l ∈ L, 0 < l) : mulTo L b n ≤ n / b := by
  rw [mulTo_cnt L b n hb hl, ← cnt_dvd hb n, cnt_split (fun m => m % b == 0) (mulOf L) n]
  omega
/-- the ones of a list among the first -/
theorem cnt_out {f : Nat → Bool} {O : List Nat} (nd : O.Nodup) (hf : ∀ o ∈ O, 1 ≤ o ∧ f o = true) : ∀ n, cnt (fun m => f m && !decide (m ∈ O)) n + (O.filter fun o => decide (o ≤ n)).length = cnt f n
  | 0 => by
    have : (O.filter fun o => decide (o ≤ 0)) = [] := List.filter_eq_nil_iff.mpr fun o ho => by have := (hf o ho).1; simp; omega
    rw [this]
    rfl
  | n + 1 => by
    have ih := cnt_out nd hf n
    have key : (O.filter fun o => decide (o ≤ n + 1)).length = (O.filter fun o => decide (o ≤ n)).length + (if n + 1 ∈ O then 1 else 0) := by
      clear ih hf
      induction O with
      | nil => rfl
      | cons a O ih =>
        rw [List.nodup_cons] at nd
        have ih := ih nd.2
        by_cases h1 : a ≤ n
        · rw [List.filter_cons_of_pos (by simpa using Nat.le_succ_of_le h1), List.filter_cons_of_pos (by simpa using h1), List.length_cons, List.length_cons, ih]
          have : (n + 1 ∈ a :: O) ↔ n + 1 ∈ O := by
            rw [List.mem_cons]
            exact ⟨fun z => z.resolve_left (by omega), .inr⟩
          simp only [this]
          omega
        · by_cases h2 : a = n + 1
          · subst h2
            rw [List.filter_cons_of_pos (by simp), List.filter_cons_of_neg (by simp), List.length_cons, ih, if_neg nd.1, if_pos List.mem_cons_self]
          · rw [List.filter_cons_of_neg (by simp; omega), List.filter_cons_of_neg (by simpa using h1), ih]
            have : (n + 1 ∈ a :: O) ↔ n + 1 ∈ O := by
              rw [List.mem_cons]
              exact ⟨fun z => z.resolve_left (fun w => h2 w.symm), .inr⟩
            simp only [this]
    rw [cnt_s, cnt_s, key]
    by_cases h : n + 1 ∈ O
    · simp only [h, (hf _ h).2, decide_true, Bool.not_true, Bool.and_false, Bool.false_eq_true, if_false, if_true]
      omega
    · simp only [h, decide_false, Bool.not_false, Bool.and_true, if_false]
      omega
/-- the number with just k lesser ones -/
theorem nth_list (f : Nat → Bool) : ∀ (N k x : Nat), ((List.range' 1 N).filter f)[k]? = some x → 1 ≤ x ∧ x ≤ N ∧ f x = true ∧ cnt f x = k + 1 ∧ cnt f (x - 1) = k
  | 0, k, x, h => by simp at h
  | N + 1, k, x, h => by
    rw [List.range'_concat, List.filter_append, show 1 + 1 * N = N + 1 by omega] at h
    by_cases hk : k < ((List.range' 1 N).filter f).length
    · rw [List.getElem?_append_left hk] at h
      obtain ⟨a, b, c⟩ := nth_list f N k x h
      exact ⟨a, by omega, c⟩
    · rw [List.getElem?_append_right (by omega)] at h
      by_cases hf : f (N + 1) = true
      · rw [List.filter_cons_of_pos hf, List.filter_nil] at h
        have e0 : k - ((List.range' 1 N).filter f).length = 0 := by
          have := (List.getElem?_eq_some_iff.mp h).1
          simp at this
          omega
        rw [e0] at h
        have ex : x = N + 1 := by simpa using h.symm
        subst ex
        have ec : cnt f N = k := by unfold cnt; omega
        refine ⟨by omega, Nat.le_refl _, hf, ?_, ?_⟩
        · rw [cnt_s, if_pos hf, ec]
        · rw [Nat.add_sub_cancel, ec]
      · rw [List.filter_cons_of_neg hf, List.filter_nil] at h
        simp at h
theorem nth_uniq {f : Nat → Bool} {k x n : Nat} (h1 : cnt f x = k + 1) (h2 : cnt f (x - 1) = k) (h3 : k < cnt f n) (h4 : cnt f (n - 1) ≤ k) : n = x := by
  have hx : 1 ≤ x := by
    rcases Nat.eq_zero_or_pos x with e | e
    · subst e; rw [cnt_0] at h1; omega
    · exact e
  have hn : 1 ≤ n := by
    rcases Nat.eq_zero_or_pos n with e | e
    · subst e; rw [cnt_0] at h3; omega
    · exact e
  rcases Nat.lt_trichotomy n x with h | h | h
  · have := cnt_mono f (show n ≤ x - 1 by omega); omega
  · exact h
  · have := cnt_mono f (show x ≤ n - 1 by omega); omega
end SS
end
section
set_option Elab.async false
set_option linter.all false
set_option maxRecDepth 100000
set_option autoImplicit false
set_option maxHeartbeats 4000000
namespace SS
open PySem PySem.Spec PyProof.Rows L2 FL
local macro_rules
  | `(tactic| simp_arith only [$xs,*]) => `(tactic| simp (config := { implicitDefEqProofs := false }) only [tn_ok, oR_some, nx_ok, ev_var, ev_c, ev_bin, ev_kBin1, ev_kBin2, ev_un, ev_kUn, ev_asB, ev_kB, ev_asT, ev_kT, ev_tAnd2, ev_kAndT, ev_kAndF, ev_tOr2, ev_kOrT, ev_kOrF, ev_not, ev_kNot, ev_eAnd2, ev_kAndE, ev_kAndET, ev_kAndEF, ev_eOr2, ev_kOrE, ev_kOrET, ev_kOrEF, ev_eNot1, ev_kNotE, ev_kNotE2, ev_if, ev_kIfT, ev_kIfF, ev_aNil, ev_aCons, ev_kCons, ev_kCons2, ev_aStar, ev_kStar, ev_kStar2, ev_kStar3, ev_eTup, ev_kTup, ev_kTup2, ev_eLst, ev_kLst, ev_kLst2, ev_eNewL, ev_kNewL, ev_kNewL2, ev_newD, ev_callP, ev_kCallP, ev_call, ev_kCall, ev_kCall2, ev_oNone, ev_oSome, ev_kO, ev_kO2, ev_sl, ev_kSl, ev_kSl2, ev_kSl3, ev_sl3, ev_kT1, ev_kT2, ev_kT3, ev_kT4, ev_listRg, ev_kLR, ev_kLR2, ev_forM, ev_forMr, ev_forMl, ev_forMt, ev_forR, ev_meth, ev_kM, ev_kM2, ev_kM3, ev_meth0, ev_kM0, ev_chain, ev_kCh, ev_kCh2, ev_kCh3T, ev_kCh3F, ev_kCh4, ev_kLs, ev_kComp, ev_comp, ev_kRef, ev_compM, ev_kComp2, ev_comp2, ev_iSeq, ev_kIt, ev_iRange, ev_kRg, ev_enT, ev_enL, ev_iEnum, items_lst, items_tup, items_str, ev_true, ev_ret, ev_kRet, ev_expr, ev_kEx, ev_asg, ev_kAsg, ev_kNx, ev_seq, ev_kSeqN, ev_kSeqR, ev_kSeqB, ev_kSeqC, ev_ifS, ev_kIfST, ev_kIfSF, ev_for, ev_kFor, ev_next, ev_retN, ev_break, ev_cont, ev_par, ev_kPar, ev_par3, ev_kPar3, ev_gName, ev_gTup, ev_gsNil, ev_gsCons, ev_kGs, ev_gSub, ev_kSub, ev_kSub2, ev_kSub3, ev_kSub4, ev_mut, ev_kMu, ev_kMu2, ev_kMu3, ev_kMu4, ev_catM, ev_kCat, ev_kCat2, ev_catR, vw_non, vw_bl, vw_int, vw_str, vw_lst, vw_tup, vw_dct, vw_ref, vwO_lst, vwO_dct, tru_bl, tru_int, tru_lst, tru_tup, tru_non, add_int, add_lst, add_tup, add_str, sub_int, neg_int, gt_int, ge_int, lt_int, le_int, len_lst, len_tup, len_dct, len_str, int_int, tuple_lst, tuple_tup, list_lst, list_tup, sl_lst, sl_tup, is_non, isnt_non, non_bl, non_int, non_str, non_lst, non_tup, non_non, int_int?, ref_ref?, alt_tup, alt_lst, isi_int_non, isi_int_bl, isi_int_int, isi_int_str, isi_int_lst, isi_int_tup, isi_bool_non, isi_bool_bl, isi_bool_int, isi_bool_str, isi_bool_lst, isi_bool_tup, isi_str_non, isi_str_bl, isi_str_int, isi_str_str, isi_str_lst, isi_str_tup, isi_tuple_non, isi_tuple_bl, isi_tuple_int, isi_tuple_str, isi_tuple_lst, isi_tuple_tup, isi_list_non, isi_list_bl, isi_list_int, isi_list_str, isi_list_lst, isi_list_tup, isi_dict_non, isi_dict_bl, isi_dict_int, isi_dict_str, isi_dict_lst, isi_dict_tup, tyIn_lst2, tyD_lst, tyIn_tup2, tyD_tup, tyIn_str, tyD_str, tyIn_dct, tyD_dct, ev_cStep, ev_kC, ev_kC2T, ev_kC2F, ev_kSome, ev_cStep2, ev_kD, ev_kD2T, ev_kD2F, ev_kD3, ev_lStep, ev_kL, List.getElem?_cons_zero, List.getElem?_cons_succ, Option.join_some, Option.bind_some, Option.map_some, wipeE, List.set_cons_zero, List.set_cons_succ, List.length_cons, List.length_nil, List.map_cons, List.map_nil, gAll, gDef, List.cons_append, List.nil_append, if_true, if_false, Bool.not_true, Bool.not_false, Nat.zero_add, Nat.reduceAdd, Nat.reduceLeDiff, and_true, and_self, true_and, reduceIte, Bool.false_eq_true, $xs,*])
/-! ## common divisors, common multiples, divisors -/
abbrev iN (n : Nat) : D := .int (n : Int)
def SpGcdB (m : Nat) (F : Fn) : Prop := ∀ (a b : Nat) (S : Sto), b ≤ m → F [iN a, iN b] S = .ok (iN (Nat.gcd a b)) S
theorem gcd_turn (a b : Nat) : Nat.gcd b (a % b) = Nat.gcd a b := by
  rw [Nat.gcd_comm b, ← Nat.gcd_rec, Nat.gcd_comm]
theorem cd_while (S : Sto) : ∀ (n b a : Nat), b ≤ n → sWhile B_common_divisor_T1 B_common_divisor_L1 [some (iN a), some (iN b)] S = .ok (.nx [some (iN (Nat.gcd a b)), some (iN 0)]) S
  | n, b, a, h => by
    by_cases hb : 0 < b
    · cases n with
      | zero => omega
      | succ n =>
        have p : (0 : Int) < (b : Int) := by omega
        have l := Nat.mod_lt a hb
        have ih := cd_while S n (a % b) b (by omega)
        rw [gcd_turn] at ih
        have e1 : B_common_divisor_T1 [some (iN a), some (iN b)] S = .ok true S := by simp_arith only [B_common_divisor_T1, decide_eq_true p]
        have e2 : B_common_divisor_L1 [some (iN a), some (iN b)] S = .ok (.nx [some (iN b), some (iN (a % b))]) S := by
          simp_arith only [B_common_divisor_L1, modD_int p]
          rfl
        rw [sWhile_go e1 e2, ih]
    · have e0 : b = 0 := by omega
      subst e0
      have e1 : B_common_divisor_T1 [some (iN a), some (iN 0)] S = .ok false S := by simp_arith only [B_common_divisor_T1]; rfl
      rw [sWhile_stop e1, Nat.gcd_zero_right]
theorem common_divisor_ok (m : Nat) : SpGcdB m (dBody false 2 B_common_divisor) := by
  intro a b S _
  show doneR false S (B_common_divisor [some (iN a), some (iN b)] S) = _
  have e := cd_while S b b a (Nat.le_refl _)
  simp_arith only [B_common_divisor, e, done_eq]
theorem lgcd_loop (S : Sto) : ∀ (ds : List D) (b a : Nat) (x : Option D), b < ds.length → ∃ y, loopD (gName' 2) B__law_gcd_L1 ds [some (iN a), some (iN b), x] S = .ok (.rt y) S ∧ y = iN (Nat.gcd a b)
  | [], b, a, x, h => by simp at h
  | d :: ds, b, a, x, h => by
    rw [List.length_cons] at h
    by_cases hb : b = 0
    · subst hb
      refine ⟨iN a, ?_, by rw [Nat.gcd_zero_right]⟩
      have e : lStep (gName' 2) B__law_gcd_L1 d [some (iN a), some (iN 0), x] S = .ok (.rt (iN a)) S := by
        simp_arith only [B__law_gcd_L1, eqD_int]
        rfl
      rw [loopD_cons]
      simp only [bnd, e]
      rfl
    · have p : (0 : Int) < (b : Int) := by omega
      have l := Nat.mod_lt a (show b > 0 by omega)
      obtain ⟨y, h1, h2⟩ := lgcd_loop S ds (a % b) b (some d) (by omega)
      rw [gcd_turn] at h2
      refine ⟨y, ?_, h2⟩
      have z : ((b : Int) == 0) = false := by rw [beq_eq_false_iff_ne]; omega
      have e : lStep (gName' 2) B__law_gcd_L1 d [some (iN a), some (iN b), x] S = .ok (.nx [some (iN b), some (iN (a % b)), some d]) S := by
        simp_arith only [B__law_gcd_L1, eqD_int, z, modD_int p]
        rfl
      rw [loopD_step e]
      exact h1
theorem law_gcd_ok : SpGcdB 390 (dBody false 3 B__law_gcd) := by
  intro a b S hb
  show doneR false S (B__law_gcd [some (iN a), some (iN b), none] S) = _
  have r : rangeD1 [.int 400] = some ((List.range 400).map fun i : Nat => D.int i) := range1 (n := 400) (by omega)
  obtain ⟨y, h1, h2⟩ := lgcd_loop S ((List.range 400).map fun i : Nat => D.int i) b a none (by rw [List.length_map, List.length_range]; omega)
  subst h2
  simp_arith only [B__law_gcd, r, h1, done_eq]
/-! common multiples -/
def SpLcm (m : Nat) (F : Fn) : Prop := ∀ (L : List Nat) (S : Sto), (∀ l ∈ L, 0 < l ∧ l ≤ m) → F [.lst (L.map iN)] S = .ok (iN (lcmL L)) S
theorem small_nat {l : Nat} (h : l ≤ 1000000000) : FL.small64 (l : Int) = true := by
  unfold FL.small64
  rw [decide_eq_true (by omega), decide_eq_true (by omega)]
  rfl
theorem lcm_turn {m : Nat} {F1 : Fn} (h1 : SpGcdB m F1) {a l : Nat} (hl : 0 < l) (hm : l ≤ m) (hm2 : m ≤ 1000000) (S : Sto) :
    F1 [iN a, iN l] S = .ok (iN (Nat.gcd a l)) S ∧ mulD (iN a) (iN l) = some (.int ((a : Int) * (l : Int))) ∧ fdivD (.int ((a : Int) * (l : Int))) (iN (Nat.gcd a l)) = some (iN (Nat.lcm a l)) := by
  have g0 : 0 < Nat.gcd a l := Nat.gcd_pos_of_pos_right a hl
  have g1 : Nat.gcd a l ≤ l := Nat.le_of_dvd hl (Nat.gcd_dvd_right a l)
  refine ⟨h1 a l S hm, mulD_small (.inr (small_nat (by omega))), ?_⟩
  rw [fdivD_int (by omega) (by omega)]
  rfl
theorem lcm_loop {m : Nat} {F1 : Fn} (h1 : SpGcdB m F1) (hm : m ≤ 1000000) {S : Sto} {x0 : Option D} : ∀ (L : List Nat) (a : Nat) (x2 : Option D), (∀ l ∈ L, 0 < l ∧ l ≤ m) → ∃ y2, loopD (gName' 2) (B_lcm_of_L1 F1) (L.map iN) [x0, some (iN a), x2] S = .ok (.nx [x0, some (iN (L.foldl Nat.lcm a)), y2]) S
  | [], a, x2, _ => ⟨x2, rfl⟩
  | l :: L, a, x2, h => by
    obtain ⟨p, q⟩ := h l List.mem_cons_self
    obtain ⟨e1, e2, e3⟩ := lcm_turn h1 (a := a) p q hm S
    obtain ⟨y, e⟩ := lcm_loop h1 hm L (Nat.lcm a l) (some (iN l)) fun x hx => h x (List.mem_cons_of_mem _ hx)
    refine ⟨y, ?_⟩
    rw [List.map_cons, loopD_step (r' := [x0, some (iN (Nat.lcm a l)), some (iN l)]) (S' := S) (by simp_arith only [B_lcm_of_L1, e1, e2, e3]), List.foldl_cons]
    exact e
theorem lcm_of_ok {m : Nat} {F1 : Fn} (h1 : SpGcdB m F1) (hm : m ≤ 1000000) : SpLcm m (dBody false 3 (B_lcm_of F1)) := by
  intro L S h
  show doneR false S (B_lcm_of F1 [some (.lst (L.map iN)), none, none] S) = _
  obtain ⟨y, e⟩ := lcm_loop h1 hm (S := S) (x0 := some (.lst (L.map iN))) L 1 none h
  have e : loopD (gName' 2) (B_lcm_of_L1 F1) (L.map iN) [some (.lst (L.map iN)), some (.int 1), none] S = _ := e
  simp_arith only [B_lcm_of, e, done_eq]
  rfl
theorem law_lcm_ok {m : Nat} {F1 : Fn} (h1 : SpGcdB m F1) (hm : m ≤ 1000000) : SpLcm m (dBody false 3 (B__law_lcm F1)) := lcm_of_ok h1 hm
/-! divisors -/
def SpRoot (F : Fn) : Prop := ∀ (n : Nat) (S : Sto), n ≤ 1000000 → ∃ q : Nat, 1 ≤ q ∧ n ≤ q * q ∧ q ≤ n + 1 ∧ F [iN n] S = .ok (iN q) S
theorem root_while {n : Nat} (hn : n ≤ 1000000) (S : Sto) : ∀ (k r : Nat), 1 ≤ r → n ≤ r + k → r ≤ n + 1 → ∃ q : Nat, 1 ≤ q ∧ n ≤ q * q ∧ q ≤ n + 1 ∧ sWhile B_root_above_T1 B_root_above_L1 [some (iN n), some (iN r)] S = .ok (.nx [some (iN n), some (iN q)]) S
  | k, r, h1, h2, h3 => by
    have sm : mulD (iN r) (iN r) = some (.int ((r : Int) * (r : Int))) := mulD_small (.inr (small_nat (by omega)))
    have rr : r ≤ r * r := by have := Nat.mul_le_mul h1 (Nat.le_refl r); omega
    have cst : (r : Int) * (r : Int) = ((r * r : Nat) : Int) := rfl
    by_cases h : r * r < n
    · cases k with
      | zero => omega
      | succ k =>
        obtain ⟨q, a, b, c, e⟩ := root_while hn S k (r + 1) (by omega) (by omega) (by omega)
        refine ⟨q, a, b, c, ?_⟩
        have e1 : B_root_above_T1 [some (iN n), some (iN r)] S = .ok true S := by
          simp_arith only [B_root_above_T1, sm, cst, decide_eq_true (show ((r * r : Nat) : Int) < (n : Int) by omega)]
        have e2 : B_root_above_L1 [some (iN n), some (iN r)] S = .ok (.nx [some (iN n), some (iN (r + 1))]) S := by
          simp_arith only [B_root_above_L1]
          rfl
        rw [sWhile_go e1 e2, e]
    · refine ⟨r, h1, by omega, h3, ?_⟩
      have e1 : B_root_above_T1 [some (iN n), some (iN r)] S = .ok false S := by
        simp_arith only [B_root_above_T1, sm, cst, decide_eq_false (show ¬ ((r * r : Nat) : Int) < (n : Int) by omega)]
      rw [sWhile_stop e1]
theorem root_above_ok : SpRoot (dBody false 2 B_root_above) := by
  intro n S hn
  obtain ⟨q, a, b, c, e⟩ := root_while hn S n 1 (by omega) (by omega) (by omega)
  refine ⟨q, a, b, c, ?_⟩
  show doneR false S (B_root_above [some (iN n), none] S) = _
  have e : sWhile B_root_above_T1 B_root_above_L1 [some (iN n), some (.int 1)] S = _ := e
  simp_arith only [B_root_above, e, done_eq]
theorem rangeD2_i (a b : Int) (h1 : smallR a = true) (h2 : smallR b = true) : rangeD2 [.int a, .int b] = some ((List.range (b - a).toNat).map fun k : Nat => D.int (a + (k : Nat))) := by
  simp only [rangeD2, two, on2, D.int?, guard', h1, h2, Bool.and_self, if_true]
/-- range(1, q + 1) -/
theorem range_1 {q : Nat} (h : q ≤ 100000) : rangeD2 [.int 1, .int ((q : Int) + 1)] = some ((List.range' 1 q).map iN) := by
  rw [rangeD2_i 1 ((q : Int) + 1) (by unfold smallR; exact decide_eq_true (by omega)) (by unfold smallR; exact decide_eq_true (by omega)), show ((q : Int) + 1 - 1).toNat = q by omega, List.range'_eq_map_range, List.map_map]
  congr 1
theorem mod_zero {n d : Nat} (hd : 0 < d) : modD (iN n) (iN d) = some (iN (n % d)) ∧ ∀ k : Nat, eqD (iN k) (.int 0) = some (.bl (k == 0)) := by
  refine ⟨by rw [modD_int (by omega)]; rfl, fun k => ?_⟩
  rw [eqD_int]
  congr 2
  cases k with
  | zero => rfl
  | succ k => rw [show ((k + 1 : Nat) == 0) = false from rfl, beq_eq_false_iff_ne]; omega
theorem sortB_nat {ns : List Nat} {ms : List Nat} (hl : ns.length ≤ 4000) (hp : ms.Pairwise (· < ·)) (hm : ∀ a, a ∈ ms ↔ a ∈ ns) : sortSetBD (.lst (ns.map iN)) = some (.lst (ms.map iN)) := by
  have e0 : ns.map iN = (ns.map fun n : Nat => (n : Int)).map D.int := by rw [List.map_map]; rfl
  have e1 : ms.map iN = (ms.map fun n : Nat => (n : Int)).map D.int := by rw [List.map_map]; rfl
  have aq : ∀ xs : List Int, allQ D.int? (xs.map D.int) = some xs := by
    intro xs
    induction xs with
    | nil => rfl
    | cons x xs ih => rw [List.map_cons]; unfold allQ; rw [ih]; rfl
  have e2 : setI (ns.map fun n : Nat => (n : Int)) = ms.map fun n : Nat => (n : Int) := by
    refine lt_uniq (setI_lt _) (List.pairwise_map.mpr (hp.imp fun {a b} h => by omega)) fun j => ?_
    rw [mem_setI, List.mem_map, List.mem_map]
    constructor
    · intro ⟨a, h1, h2⟩; exact ⟨a, (hm a).mpr h1, h2⟩
    · intro ⟨a, h1, h2⟩; exact ⟨a, (hm a).mp h1, h2⟩
  rw [e0, e1]
  unfold sortSetBD intsOfD
  simp only [D.lst?, alt, Option.bind_some, aq, List.length_map, if_pos hl, e2]
def SpDivs (F : Fn) : Prop := ∀ (n : Nat) (S : Sto), 0 < n → n ≤ 1000 → F [iN n] S = .ok (.lst ((divs n).map iN)) S
theorem divisors_of_ok {F1 : Fn} (h1 : SpRoot F1) : SpDivs (dBody false 3 (B_divisors_of F1)) := by
  intro n S hn hl
  obtain ⟨q, q1, q2, q3, e1⟩ := h1 n S (by omega)
  show doneR false S (B_divisors_of F1 [some (iN n), none, none] S) = _
  obtain ⟨low, hlow⟩ : ∃ low, low = (List.range' 1 q).filter fun d => n % d == 0 := ⟨_, rfl⟩
  have ll : low.length ≤ q := by rw [hlow]; exact Nat.le_trans (List.length_filter_le ..) (by simp)
  have ml : ∀ d, d ∈ low ↔ (1 ≤ d ∧ d ≤ q) ∧ d ∣ n := fun d => by
    rw [hlow, List.mem_filter, List.mem_range'_1, beq_iff_eq]
    constructor
    · intro ⟨a, b⟩; exact ⟨by omega, Nat.dvd_of_mod_eq_zero b⟩
    · intro ⟨a, b⟩; exact ⟨by omega, Nat.mod_eq_zero_of_dvd b⟩
  have e2 := compD_filter (S := S) (b := gName' 2) (t := B_divisors_of_T1 F1) (e := eVar 2) (r0 := [some (iN n), none, none]) iN (fun d => n % d == 0) (List.range' 1 q) (fun d hd => by
    rw [List.mem_range'_1] at hd
    obtain ⟨m1, m2⟩ := mod_zero (n := n) (show 0 < d by omega)
    simp_arith only [B_divisors_of_T1, m1, m2]
    cases (n % d == 0) <;> simp_arith only [] <;> rfl) (by simp; omega)
  rw [← hlow] at e2
  have e3 := compD_map (S := S) (b := gName' 2) (t := tTrue) (e := B_divisors_of_E1 F1) (r0 := [some (iN n), some (.lst (low.map iN)), none]) iN (fun d => iN (n / d)) low (fun d hd => by
    have hd' := ((ml d).mp hd).1
    have dv : fdivD (iN n) (iN d) = some (iN (n / d)) := by rw [fdivD_int (by omega) (by omega)]; rfl
    simp_arith only [B_divisors_of_E1, dv]) (by omega)
  have e3b : low.map (fun d => iN (n / d)) = (low.map fun d => n / d).map iN := by rw [List.map_map]; rfl
  have cat : addD (.lst (low.map iN)) (.lst ((low.map fun d => n / d).map iN)) = some (.lst ((low ++ low.map fun d => n / d).map iN)) := by
    rw [List.map_append]
    rw [add_lst, cap_ok (by simp; omega)]
  have st : sortSetBD (.lst ((low ++ low.map fun d => n / d).map iN)) = some (.lst ((divs n).map iN)) := by
    refine sortB_nat (by simp; omega) (divs_pw n) fun a => ?_
    rw [mem_divs hn, List.mem_append, List.mem_map]
    constructor
    · intro h
      by_cases z : a ≤ q
      · exact .inl ((ml a).mpr ⟨⟨Nat.pos_of_dvd_of_pos h hn, z⟩, h⟩)
      · obtain ⟨c, hc⟩ := h
        have c0 : 0 < c := by rcases Nat.eq_zero_or_pos c with e | e; (subst e; omega); exact e
        have a0 : 0 < a := by omega
        refine .inr ⟨c, (ml c).mpr ⟨⟨c0, ?_⟩, ⟨a, by rw [hc, Nat.mul_comm]⟩⟩, ?_⟩
        · rcases Nat.lt_or_ge q c with w | w
          · have k1 : (q + 1) * (q + 1) ≤ a * c := Nat.mul_le_mul (by omega) (by omega)
            have k2 : (q + 1) * (q + 1) = q * q + 2 * q + 1 := by rw [Nat.add_mul, Nat.mul_add]; omega
            omega
          · exact w
        · rw [hc, Nat.mul_div_cancel _ c0]
    · intro h
      rcases h with h | ⟨c, hc, e⟩
      · exact ((ml a).mp h).2
      · obtain ⟨_, d, hd⟩ := (ml c).mp hc
        have c0 := ((ml c).mp hc).1.1
        rw [hd, Nat.mul_comm c d, Nat.mul_div_cancel _ c0] at e
        exact ⟨c, by rw [hd, ← e, Nat.mul_comm]⟩
  simp_arith only [B_divisors_of, e1, range_1 (show q ≤ 100000 by omega), e2, e3, e3b, cat, st, done_eq]
end SS
end
section
set_option Elab.async false
set_option linter.all false
set_option maxRecDepth 100000
set_option autoImplicit false
set_option maxHeartbeats 4000000
namespace SS
open PySem PySem.Spec PyProof.Rows L2 FL
local macro_rules
  | `(tactic| simp_arith only [$xs,*]) => `(tactic| simp (config := { implicitDefEqProofs := false }) only [tn_ok, oR_some, nx_ok, ev_var, ev_c, ev_bin, ev_kBin1, ev_kBin2, ev_un, ev_kUn, ev_asB, ev_kB, ev_asT, ev_kT, ev_tAnd2, ev_kAndT, ev_kAndF, ev_tOr2, ev_kOrT, ev_kOrF, ev_not, ev_kNot, ev_eAnd2, ev_kAndE, ev_kAndET, ev_kAndEF, ev_eOr2, ev_kOrE, ev_kOrET, ev_kOrEF, ev_eNot1, ev_kNotE, ev_kNotE2, ev_if, ev_kIfT, ev_kIfF, ev_aNil, ev_aCons, ev_kCons, ev_kCons2, ev_aStar, ev_kStar, ev_kStar2, ev_kStar3, ev_eTup, ev_kTup, ev_kTup2, ev_eLst, ev_kLst, ev_kLst2, ev_eNewL, ev_kNewL, ev_kNewL2, ev_newD, ev_callP, ev_kCallP, ev_call, ev_kCall, ev_kCall2, ev_oNone, ev_oSome, ev_kO, ev_kO2, ev_sl, ev_kSl, ev_kSl2, ev_kSl3, ev_sl3, ev_kT1, ev_kT2, ev_kT3, ev_kT4, ev_listRg, ev_kLR, ev_kLR2, ev_forM, ev_forMr, ev_forMl, ev_forMt, ev_forR, ev_meth, ev_kM, ev_kM2, ev_kM3, ev_meth0, ev_kM0, ev_chain, ev_kCh, ev_kCh2, ev_kCh3T, ev_kCh3F, ev_kCh4, ev_kLs, ev_kComp, ev_comp, ev_kRef, ev_compM, ev_kComp2, ev_comp2, ev_iSeq, ev_kIt, ev_iRange, ev_kRg, ev_enT, ev_enL, ev_iEnum, items_lst, items_tup, items_str, ev_true, ev_ret, ev_kRet, ev_expr, ev_kEx, ev_asg, ev_kAsg, ev_kNx, ev_seq, ev_kSeqN, ev_kSeqR, ev_kSeqB, ev_kSeqC, ev_ifS, ev_kIfST, ev_kIfSF, ev_for, ev_kFor, ev_next, ev_retN, ev_break, ev_cont, ev_par, ev_kPar, ev_par3, ev_kPar3, ev_gName, ev_gTup, ev_gsNil, ev_gsCons, ev_kGs, ev_gSub, ev_kSub, ev_kSub2, ev_kSub3, ev_kSub4, ev_mut, ev_kMu, ev_kMu2, ev_kMu3, ev_kMu4, ev_catM, ev_kCat, ev_kCat2, ev_catR, vw_non, vw_bl, vw_int, vw_str, vw_lst, vw_tup, vw_dct, vw_ref, vwO_lst, vwO_dct, tru_bl, tru_int, tru_lst, tru_tup, tru_non, add_int, add_lst, add_tup, add_str, sub_int, neg_int, gt_int, ge_int, lt_int, le_int, len_lst, len_tup, len_dct, len_str, int_int, tuple_lst, tuple_tup, list_lst, list_tup, sl_lst, sl_tup, is_non, isnt_non, non_bl, non_int, non_str, non_lst, non_tup, non_non, int_int?, ref_ref?, alt_tup, alt_lst, isi_int_non, isi_int_bl, isi_int_int, isi_int_str, isi_int_lst, isi_int_tup, isi_bool_non, isi_bool_bl, isi_bool_int, isi_bool_str, isi_bool_lst, isi_bool_tup, isi_str_non, isi_str_bl, isi_str_int, isi_str_str, isi_str_lst, isi_str_tup, isi_tuple_non, isi_tuple_bl, isi_tuple_int, isi_tuple_str, isi_tuple_lst, isi_tuple_tup, isi_list_non, isi_list_bl, isi_list_int, isi_list_str, isi_list_lst, isi_list_tup, isi_dict_non, isi_dict_bl, isi_dict_int, isi_dict_str, isi_dict_lst, isi_dict_tup, tyIn_lst2, tyD_lst, tyIn_tup2, tyD_tup, tyIn_str, tyD_str, tyIn_dct, tyD_dct, ev_cStep, ev_kC, ev_kC2T, ev_kC2F, ev_kSome, ev_cStep2, ev_kD, ev_kD2T, ev_kD2F, ev_kD3, ev_lStep, ev_kL, List.getElem?_cons_zero, List.getElem?_cons_succ, Option.join_some, Option.bind_some, Option.map_some, wipeE, List.set_cons_zero, List.set_cons_succ, List.length_cons, List.length_nil, List.map_cons, List.map_nil, gAll, gDef, List.cons_append, List.nil_append, if_true, if_false, Bool.not_true, Bool.not_false, Nat.zero_add, Nat.reduceAdd, Nat.reduceLeDiff, and_true, and_self, true_and, reduceIte, Bool.false_eq_true, $xs,*])
/-! ## least ones, modulus sets by form -/
theorem pn_nats (L : List Nat) : Pn (.tup (L.map iN)) ∧ Pn (.lst (L.map iN)) := by
  have h : ∀ d ∈ L.map iN, Pk 0 d := fun d hd => by
    obtain ⟨n, _, rfl⟩ := List.mem_map.mp hd
    exact pk_int 0 _
  exact ⟨(pk_tup h).pn (by omega), (pk_lst h).pn (by omega)⟩
theorem mem_iN {a : Nat} {L : List Nat} : iN a ∈ L.map iN ↔ a ∈ L := by
  rw [List.mem_map]
  constructor
  · intro ⟨b, h1, h2⟩
    have : (b : Int) = (a : Int) := by injection h2
    have : b = a := by omega
    subst this
    exact h1
  · intro h; exact ⟨a, h, rfl⟩
/-- a list or a tuple of numbers -/
def SeqN (d : D) (L : List Nat) : Prop := d = .lst (L.map iN) ∨ d = .tup (L.map iN)
open Classical in
theorem in_nat {a : Nat} {d : D} {L : List Nat} (h : SeqN d L) : inD (iN a) d = some (.bl (decide (a ∈ L))) ∧ notInD (iN a) d = some (.bl (!decide (a ∈ L))) := by
  have pd : Pn d := by rcases h with rfl | rfl; exact (pn_nats L).2; exact (pn_nats L).1
  rw [inD_pn h pd (pn_int _), notInD_pn h pd (pn_int _)]
  by_cases q : a ∈ L
  · rw [decide_eq_true q, decide_eq_true (mem_iN.mpr q)]; exact ⟨rfl, rfl⟩
  · rw [decide_eq_false q, decide_eq_false (fun z => q (mem_iN.mp z))]; exact ⟨rfl, rfl⟩
def SpLeasts (F : Fn) : Prop := ∀ (d : D) (G : List Nat) (S : Sto), SeqN d G → (∀ g ∈ G, 0 < g) → G.length ≤ 100000 → F [d] S = .ok (.lst ((leasts G).map iN)) S
theorem any_of {α : Type} (f : α → Bool) (L : List α) : anyD [.lst (L.map fun x => D.bl (f x))] = some (.bl (L.any f)) := by
  have : L.map (fun x => D.bl (f x)) = (L.map f).map D.bl := by rw [List.map_map]; rfl
  rw [this, any_bl, List.any_map]
  rfl
theorem all_of {α : Type} (f : α → Bool) (L : List α) : allD [.lst (L.map fun x => D.bl (f x))] = some (.bl (L.all f)) := by
  have : L.map (fun x => D.bl (f x)) = (L.map f).map D.bl := by rw [List.map_map]; rfl
  rw [this, all_bl, List.all_map]
  rfl
theorem leasts_of_ok : SpLeasts (dBody false 3 B_leasts_of) := by
  intro d G S hd hp hl
  show doneR false S (B_leasts_of [some d, none, none] S) = _
  have inner : ∀ a ∈ G, compD (gName' 2) tTrue B_leasts_of_E1 [some d, some (iN a), none] (G.map iN) [] S = .ok (G.map fun e => D.bl (decide (e < a) && a % e == 0)) S := fun a _ =>
    compD_map (S := S) (b := gName' 2) (t := tTrue) (e := B_leasts_of_E1) (r0 := [some d, some (iN a), none]) iN (fun e => D.bl (decide (e < a) && a % e == 0)) G (fun e he => by
      obtain ⟨m1, m2⟩ := mod_zero (n := a) (hp e he)
      by_cases q : e < a
      · simp_arith only [B_leasts_of_E1, decide_eq_true (show (e : Int) < (a : Int) by omega), m1, m2, decide_eq_true q, Bool.true_and]
      · simp_arith only [B_leasts_of_E1, decide_eq_false (show ¬ (e : Int) < (a : Int) by omega), decide_eq_false q, Bool.false_and]) (by omega)
  have outer := compD_filter (S := S) (b := gName' 1) (t := B_leasts_of_T1) (e := eVar 1) (r0 := [some d, none, none]) iN (fun a => !(G.any fun e => decide (e < a) && a % e == 0)) G (fun a ha => by
    have i := inner a ha
    rcases hd with rfl | rfl
    · simp_arith only [B_leasts_of_T1, i, any_of]
      cases (G.any fun e => decide (e < a) && a % e == 0) <;> simp_arith only [] <;> rfl
    · simp_arith only [B_leasts_of_T1, i, any_of]
      cases (G.any fun e => decide (e < a) && a % e == 0) <;> simp_arith only [] <;> rfl) (by omega)
  rcases hd with rfl | rfl
  · simp_arith only [B_leasts_of, outer, done_eq]
    rfl
  · simp_arith only [B_leasts_of, outer, done_eq]
    rfl
/-! are these moduli -/
def isMod : D → Bool
  | .int i => decide (0 < i)
  | _ => false
def SpModG (F : Fn) : Prop := ∀ (d : D) (S : Sto), nr d = true → F [d] S = .ok (.bl (isMod d)) S
theorem is_modulusG_ok {F1 : Fn} (h1 : SpNumG F1) : SpModG (dBody false 1 (B_is_modulus F1)) := by
  intro d S h
  have e := h1 d S h
  show doneR false S (B_is_modulus F1 [some d] S) = _
  cases d with
  | int i =>
    by_cases q : 0 ≤ i
    · have e : F1 [.int i] S = .ok (.bl true) S := by
        rw [e]
        show R.ok (D.bl (decide (0 ≤ i))) S = _
        rw [decide_eq_true q]
      simp_arith only [B_is_modulus, e, done_eq, isMod]
    · have e : F1 [.int i] S = .ok (.bl false) S := by
        rw [e]
        show R.ok (D.bl (decide (0 ≤ i))) S = _
        rw [decide_eq_false q]
      simp_arith only [B_is_modulus, e, done_eq, isMod, decide_eq_false (show ¬ 0 < i by omega)]
  | ref n => simp [nr] at h
  | dct n => simp [nr] at h
  | fn _ _ => simp [nr] at h
  | obj _ _ _ => simp [nr] at h
  | _ => simp_arith only [B_is_modulus, e, isNat, done_eq, isMod]
def SpRisN (F : Fn) : Prop := ∀ (L : List Nat) (S : Sto), L.Pairwise (· < ·) → L.length ≤ 100000 → F [.tup (L.map iN)] S = .ok (.bl true) S
theorem zip_lt : ∀ {L : List Nat}, L.Pairwise (· < ·) → ∀ q ∈ L.zip (L.drop 1), q.1 < q.2
  | [], _, q, h => by simp at h
  | [x], _, q, h => by simp at h
  | x :: y :: r, h, q, hq => by
    rw [List.pairwise_cons] at h
    have e : (x :: y :: r).zip ((x :: y :: r).drop 1) = (x, y) :: (y :: r).zip ((y :: r).drop 1) := rfl
    rw [e] at hq
    rcases List.mem_cons.mp hq with rfl | hq
    · exact h.1 y List.mem_cons_self
    · exact zip_lt h.2 q hq
theorem is_risingN_ok : SpRisN (dBody false 3 B_is_rising) := by
  intro L S hp hl
  have e := compD_map (S := S) (b := gTup' 2 (gsCons (gName' 1) (gsCons (gName' 2) gsNil))) (t := tTrue) (e := B_is_rising_E1) (r0 := [some (.tup (L.map iN)), none, none]) (fun q : Nat × Nat => D.tup [iN q.1, iN q.2]) (fun q => D.bl (decide (q.1 < q.2))) (L.zip (L.drop 1)) (fun q hq => by
    by_cases z : q.1 < q.2
    · simp_arith only [B_is_rising_E1, decide_eq_true (show (q.1 : Int) < (q.2 : Int) by omega), decide_eq_true z]
    · simp_arith only [B_is_rising_E1, decide_eq_false (show ¬ (q.1 : Int) < (q.2 : Int) by omega), decide_eq_false z]) (by rw [List.length_zip]; omega)
  have dr : cutL (L.map iN) (some 1) none = (L.drop 1).map iN := by
    have := cut_drop' (L.map iN) 1
    rw [← List.map_drop] at this
    exact this
  have al : ((L.zip (L.drop 1)).all fun q => decide (q.1 < q.2)) = true := List.all_eq_true.mpr fun q hq => decide_eq_true (zip_lt hp q hq)
  show doneR false S (B_is_rising [some (.tup (L.map iN)), none, none] S) = _
  simp_arith only [B_is_rising, dr, zipD_tup, zipL_maps, e, all_of, al, done_eq]
def SpModT (F : Fn) : Prop := ∀ (L : List Nat) (S : Sto), L.Pairwise (· < ·) → (∀ l ∈ L, 0 < l) → L.length ≤ 100000 → F [.tup (L.map iN)] S = .ok (.bl true) S
theorem are_moduli_ok {F1 F2 : Fn} (h1 : SpModG F1) (h2 : SpRisN F2) : SpModT (dBody false 2 (B_are_moduli_in F1 F2)) := by
  intro L S hp hz hl
  have e := compD_map (S := S) (b := gName' 1) (t := tTrue) (e := B_are_moduli_in_E1 F1 F2) (r0 := [some (.tup (L.map iN)), none]) iN (fun _ => D.bl true) L (fun l hl => by
    have e1 : F1 [iN l] S = .ok (.bl true) S := by
      rw [h1 (iN l) S rfl]
      show R.ok (D.bl (decide (0 < (l : Int)))) S = _
      rw [decide_eq_true (by have := hz l hl; omega)]
    simp_arith only [B_are_moduli_in_E1, e1]) (by omega)
  have al : (L.all fun _ => true) = true := List.all_eq_true.mpr fun _ _ => rfl
  show doneR false S (B_are_moduli_in F1 F2 [some (.tup (L.map iN)), none] S) = _
  simp_arith only [B_are_moduli_in, e, all_of (fun _ => true) L, al, h2 L S hp hl, done_eq]
def SpClosed (F : Fn) : Prop := ∀ (P : Nat) (G : List Nat) (S : Sto), Clo P G → P ≤ 1000 → F [iN P, .tup (G.map iN)] S = .ok (.bl true) S
theorem Clo.len {P : Nat} {G : List Nat} (h : Clo P G) : G.length ≤ P := by
  have nd : G.Nodup := h.pw.imp fun {a b} (q : a < b) => by omega
  have := List.Nodup.length_le_of_subset nd (l₂ := List.range' 1 P) fun a ha => by
    rw [List.mem_range'_1]
    have := Nat.le_of_dvd h.pos (h.dv a ha)
    have := h.gpos ha
    omega
  simpa using this
theorem divs_len (P : Nat) : (divs P).length ≤ P := by
  unfold divs
  exact Nat.le_trans (List.length_filter_le ..) (by simp)
theorem Clo.filt {P : Nat} {G : List Nat} (h : Clo P G) : (divs P).filter (mulOf G) = G := by
  refine pw_ext ((divs_pw P).sublist List.filter_sublist) h.pw fun a => ?_
  rw [List.mem_filter, mem_divs h.pos, mulOf_iff]
  constructor
  · intro ⟨h1, l, h2, h3⟩; exact h.up l h2 a h3 h1
  · intro q; exact ⟨h.dv a q, a, q, Nat.dvd_refl a⟩
theorem are_closed_ok {F1 F2 : Fn} (h1 : SpModT F1) (h2 : SpDivs F2) : SpClosed (dBody false 5 (B_are_closed F1 F2)) := by
  intro P G S hc hP
  have lG := hc.len
  have e1 := h1 G S hc.pw (fun l hl => hc.gpos hl) (by omega)
  have e2 := h2 P S hc.pos hP
  have e3 := compD_map (S := S) (b := gName' 3) (t := tTrue) (e := B_are_closed_E1 F1 F2) (r0 := [some (iN P), some (.tup (G.map iN)), none, none, none]) iN (fun l => D.bl (P % l == 0)) G (fun l hl => by
    obtain ⟨m1, m2⟩ := mod_zero (n := P) (hc.gpos hl)
    simp_arith only [B_are_closed_E1, m1, m2]) (by omega)
  have a3 : (G.all fun l => P % l == 0) = true := List.all_eq_true.mpr fun l hl => by rw [beq_iff_eq]; exact Nat.mod_eq_zero_of_dvd (hc.dv l hl)
  have e4 : ∀ a, compD (gName' 4) tTrue (B_are_closed_E2 F1 F2) [some (iN P), some (.tup (G.map iN)), none, some (iN a), none] (G.map iN) [] S = .ok (G.map fun l => D.bl (a % l == 0)) S := fun a =>
    compD_map (S := S) (b := gName' 4) (t := tTrue) (e := B_are_closed_E2 F1 F2) (r0 := [some (iN P), some (.tup (G.map iN)), none, some (iN a), none]) iN (fun l => D.bl (a % l == 0)) G (fun l hl => by
      obtain ⟨m1, m2⟩ := mod_zero (n := a) (hc.gpos hl)
      simp_arith only [B_are_closed_E2, m1, m2]) (by omega)
  have e5 := compD_filter (S := S) (b := gName' 3) (t := B_are_closed_T1 F1 F2) (e := eVar 3) (r0 := [some (iN P), some (.tup (G.map iN)), none, none, none]) iN (mulOf G) (divs P) (fun a ha => by
    have q : (G.any fun l => a % l == 0) = mulOf G a := rfl
    simp_arith only [B_are_closed_T1, e4 a, any_of, q]
    cases mulOf G a <;> simp_arith only [] <;> rfl) (by have := divs_len P; omega)
  rw [hc.filt] at e5
  have eqq : eqD (.lst (G.map iN)) (.lst (G.map iN)) = some (.bl true) := by rw [eqD_pn (pn_nats G).2 (pn_nats G).2]; exact congrArg (fun b => some (D.bl b)) (@decide_eq_true _ (Classical.propDecidable _) rfl)
  show doneR false S (B_are_closed F1 F2 [some (iN P), some (.tup (G.map iN)), none, none, none] S) = _
  simp_arith only [B_are_closed, e1, e2, e3, all_of, a3, e5, eqq, done_eq]
/-! ## the told form -/
def formD (P : Nat) (G O : List Nat) : D := .tup [iN P, .tup (G.map iN), .tup (O.map iN)]
def SpToldG (F : Fn) : Prop := ∀ (P : D) (dG dO : D) (G O O' : List Nat) (S : Sto), SeqN dG G → SeqN dO O → (∀ g ∈ G, 0 < g ∧ g ≤ 1000) → G.length ≤ 1000 → lcmL (leasts G) ≤ 1000 → 0 < lcmL (leasts G) → O.length ≤ 4000 → O'.Pairwise (· < ·) → (∀ a, a ∈ O' ↔ a ∈ O ∧ Nat.gcd a (lcmL (leasts G)) ∈ late G) → nr P = true →
  F [P, dG, dO] S = .ok (formD (lcmL (leasts G)) (late G) O') S
theorem told_form_ok {F1 F2 F3 F4 : Fn} (h1 : SpGcdB 1000 F1) (h2 : SpDivs F2) (h3 : SpLcm 1000 F3) (h4 : SpLeasts F4) : SpToldG (dBody false 10 (B_told_form_modulisets F1 F2 F3 F4)) := by
  intro P dG dO G O O' S sG sO hG lG lW pW lO pO mO nP
  have e1 := h4 dG G S sG (fun g hg => (hG g hg).1) (by omega)
  have lm : ∀ l ∈ leasts G, 0 < l ∧ l ≤ 1000 := fun l hl => hG l (mem_leasts.mp hl).1
  have e2 := h3 (leasts G) S lm
  have e3 := h2 (lcmL (leasts G)) S pW lW
  obtain ⟨W, hW⟩ : ∃ W, W = lcmL (leasts G) := ⟨_, rfl⟩
  have lL : (leasts G).length ≤ 1000 := Nat.le_trans (List.length_filter_le ..) lG
  show doneR false S (B_told_form_modulisets F1 F2 F3 F4 [some P, some dG, some dO, none, none, none, none, none, none, none] S) = _
  have e4 : ∀ a, compD (gName' 9) tTrue (B_told_form_modulisets_E1 F1 F2 F3 F4) [some P, some dG, some dO, some (.lst ((leasts G).map iN)), some (iN W), none, none, some (iN a), none, none] ((leasts G).map iN) [] S = .ok ((leasts G).map fun l => D.bl (a % l == 0)) S := fun a =>
    compD_map (S := S) (b := gName' 9) (t := tTrue) (e := B_told_form_modulisets_E1 F1 F2 F3 F4) (r0 := [some P, some dG, some dO, some (.lst ((leasts G).map iN)), some (iN W), none, none, some (iN a), none, none]) iN (fun l => D.bl (a % l == 0)) (leasts G) (fun l hl => by
      obtain ⟨m1, m2⟩ := mod_zero (n := a) (lm l hl).1
      simp_arith only [B_told_form_modulisets_E1, m1, m2]) (by omega)
  have e5 := compD_filter (S := S) (b := gName' 7) (t := B_told_form_modulisets_T1 F1 F2 F3 F4) (e := eVar 7) (r0 := [some P, some dG, some dO, some (.lst ((leasts G).map iN)), some (iN W), none, none, none, none, none]) iN (mulOf (leasts G)) (divs W) (fun a ha => by
    have q : ((leasts G).any fun l => a % l == 0) = mulOf (leasts G) a := rfl
    simp_arith only [B_told_form_modulisets_T1, e4 a, any_of, q]
    cases mulOf (leasts G) a <;> simp_arith only [] <;> rfl) (by have := divs_len W; omega)
  have hl : (divs W).filter (mulOf (leasts G)) = late G := by rw [hW]; rfl
  rw [hl] at e5
  have e6 := compD_filter (S := S) (b := gName' 8) (t := B_told_form_modulisets_T2 F1 F2 F3 F4) (e := eVar 8) (r0 := [some P, some dG, some dO, some (.lst ((leasts G).map iN)), some (iN W), some (.lst ((late G).map iN)), none, none, none, none]) iN (fun o => decide (Nat.gcd o W ∈ late G)) O (fun o ho => by
    have g1 := h1 o W S (by omega)
    have i1 := (in_nat (a := Nat.gcd o W) (.inl rfl : SeqN (.lst ((late G).map iN)) (late G))).1
    simp_arith only [B_told_form_modulisets_T2, g1, i1]
    cases decide (Nat.gcd o W ∈ late G) <;> simp_arith only [] <;> rfl) (by omega)
  have e7 : sortSetBD (.lst ((O.filter fun o => decide (Nat.gcd o W ∈ late G)).map iN)) = some (.lst (O'.map iN)) := sortB_nat (Nat.le_trans (List.length_filter_le ..) (by omega)) pO fun a => by
    rw [mO, List.mem_filter, decide_eq_true_eq, hW]
  rw [← hW] at e2 e3
  have vP : vw S P = P := nr_vw nP
  have ll : (late G).length ≤ 1000 := by
    have := List.length_filter_le (mulOf (leasts G)) (divs W)
    rw [hl] at this
    have := divs_len W
    omega
  have fw : few [iN W, .tup ((late G).map iN), .tup (O'.map iN)] = some [iN W, .tup ((late G).map iN), .tup (O'.map iN)] := few_ok (by simp)
  rw [← hW]
  rcases sG with rfl | rfl <;> rcases sO with rfl | rfl <;> simp_arith only [B_told_form_modulisets, e1, e2, e3, e5, e6, e7, fw, done_eq, formD]
end SS
end
section
set_option Elab.async false
set_option linter.all false
set_option maxRecDepth 100000
set_option autoImplicit false
set_option maxHeartbeats 4000000
namespace SS
open PySem PySem.Spec PyProof.Rows L2 FL
local macro_rules
  | `(tactic| simp_arith only [$xs,*]) => `(tactic| simp (config := { implicitDefEqProofs := false }) only [tn_ok, oR_some, nx_ok, ev_var, ev_c, ev_bin, ev_kBin1, ev_kBin2, ev_un, ev_kUn, ev_asB, ev_kB, ev_asT, ev_kT, ev_tAnd2, ev_kAndT, ev_kAndF, ev_tOr2, ev_kOrT, ev_kOrF, ev_not, ev_kNot, ev_eAnd2, ev_kAndE, ev_kAndET, ev_kAndEF, ev_eOr2, ev_kOrE, ev_kOrET, ev_kOrEF, ev_eNot1, ev_kNotE, ev_kNotE2, ev_if, ev_kIfT, ev_kIfF, ev_aNil, ev_aCons, ev_kCons, ev_kCons2, ev_aStar, ev_kStar, ev_kStar2, ev_kStar3, ev_eTup, ev_kTup, ev_kTup2, ev_eLst, ev_kLst, ev_kLst2, ev_eNewL, ev_kNewL, ev_kNewL2, ev_newD, ev_callP, ev_kCallP, ev_call, ev_kCall, ev_kCall2, ev_oNone, ev_oSome, ev_kO, ev_kO2, ev_sl, ev_kSl, ev_kSl2, ev_kSl3, ev_sl3, ev_kT1, ev_kT2, ev_kT3, ev_kT4, ev_listRg, ev_kLR, ev_kLR2, ev_forM, ev_forMr, ev_forMl, ev_forMt, ev_forR, ev_meth, ev_kM, ev_kM2, ev_kM3, ev_meth0, ev_kM0, ev_chain, ev_kCh, ev_kCh2, ev_kCh3T, ev_kCh3F, ev_kCh4, ev_kLs, ev_kComp, ev_comp, ev_kRef, ev_compM, ev_kComp2, ev_comp2, ev_iSeq, ev_kIt, ev_iRange, ev_kRg, ev_enT, ev_enL, ev_iEnum, items_lst, items_tup, items_str, ev_true, ev_ret, ev_kRet, ev_expr, ev_kEx, ev_asg, ev_kAsg, ev_kNx, ev_seq, ev_kSeqN, ev_kSeqR, ev_kSeqB, ev_kSeqC, ev_ifS, ev_kIfST, ev_kIfSF, ev_for, ev_kFor, ev_next, ev_retN, ev_break, ev_cont, ev_par, ev_kPar, ev_par3, ev_kPar3, ev_gName, ev_gTup, ev_gsNil, ev_gsCons, ev_kGs, ev_gSub, ev_kSub, ev_kSub2, ev_kSub3, ev_kSub4, ev_mut, ev_kMu, ev_kMu2, ev_kMu3, ev_kMu4, ev_catM, ev_kCat, ev_kCat2, ev_catR, vw_non, vw_bl, vw_int, vw_str, vw_lst, vw_tup, vw_dct, vw_ref, vwO_lst, vwO_dct, tru_bl, tru_int, tru_lst, tru_tup, tru_non, add_int, add_lst, add_tup, add_str, sub_int, neg_int, gt_int, ge_int, lt_int, le_int, len_lst, len_tup, len_dct, len_str, int_int, tuple_lst, tuple_tup, list_lst, list_tup, sl_lst, sl_tup, is_non, isnt_non, non_bl, non_int, non_str, non_lst, non_tup, non_non, int_int?, ref_ref?, alt_tup, alt_lst, isi_int_non, isi_int_bl, isi_int_int, isi_int_str, isi_int_lst, isi_int_tup, isi_bool_non, isi_bool_bl, isi_bool_int, isi_bool_str, isi_bool_lst, isi_bool_tup, isi_str_non, isi_str_bl, isi_str_int, isi_str_str, isi_str_lst, isi_str_tup, isi_tuple_non, isi_tuple_bl, isi_tuple_int, isi_tuple_str, isi_tuple_lst, isi_tuple_tup, isi_list_non, isi_list_bl, isi_list_int, isi_list_str, isi_list_lst, isi_list_tup, isi_dict_non, isi_dict_bl, isi_dict_int, isi_dict_str, isi_dict_lst, isi_dict_tup, tyIn_lst2, tyD_lst, tyIn_tup2, tyD_tup, tyIn_str, tyD_str, tyIn_dct, tyD_dct, ev_cStep, ev_kC, ev_kC2T, ev_kC2F, ev_kSome, ev_cStep2, ev_kD, ev_kD2T, ev_kD2F, ev_kD3, ev_lStep, ev_kL, List.getElem?_cons_zero, List.getElem?_cons_succ, Option.join_some, Option.bind_some, Option.map_some, wipeE, List.set_cons_zero, List.set_cons_succ, List.length_cons, List.length_nil, List.map_cons, List.map_nil, gAll, gDef, List.cons_append, List.nil_append, if_true, if_false, Bool.not_true, Bool.not_false, Nat.zero_add, Nat.reduceAdd, Nat.reduceLeDiff, and_true, and_self, true_and, reduceIte, Bool.false_eq_true, $xs,*])
/-! ## what is in a modulus set, counted, and the k-th -/
structure Vm (P : Nat) (G O : List Nat) : Prop where
  clo : Clo P G
  le : P ≤ 1000
  few : G.length ≤ 60
  ord : O.Pairwise (· < ·)
  out : ∀ o ∈ O, 0 < o ∧ Nat.gcd o P ∈ G
  len : O.length ≤ 1000
def hasB (P : Nat) (G O : List Nat) (n : Nat) : Bool := decide (Nat.gcd n P ∈ G) && !decide (n ∈ O)
def SpHas (F : Fn) : Prop := ∀ (P : Nat) (G O : List Nat) (n : Nat) (S : Sto), P ≤ 1000 → F [formD P G O, iN n] S = .ok (.bl (hasB P G O n)) S
theorem has_modulus_ok {F1 : Fn} (h1 : SpGcdB 1000 F1) : SpHas (dBody false 5 (B_has_modulus F1)) := by
  intro P G O n S hP
  have e1 := h1 n P S hP
  have i1 := (in_nat (a := Nat.gcd n P) (.inr rfl : SeqN (.tup (G.map iN)) G)).1
  have i2 := (in_nat (a := n) (.inr rfl : SeqN (.tup (O.map iN)) O)).2
  show doneR false S (B_has_modulus F1 [some (formD P G O), some (iN n), none, none, none] S) = _
  unfold hasB
  by_cases q : Nat.gcd n P ∈ G
  · rw [decide_eq_true q] at i1 ⊢
    simp_arith only [B_has_modulus, formD, e1, i1, i2, done_eq, Bool.true_and]
  · rw [decide_eq_false q] at i1 ⊢
    simp_arith only [B_has_modulus, formD, e1, i1, done_eq, Bool.false_and]
/-! enumerate from a place -/
def enN (k : Nat) (ds : List D) : List D := (List.range' k ds.length).zipWith (fun (i : Nat) d => .tup [.int (i : Nat), d]) ds
theorem enN_0 (ds : List D) : enumL ds = enN 0 ds := by unfold enumL enN; rw [List.range_eq_range']
theorem enN_cons (k : Nat) (d : D) (ds : List D) : enN k (d :: ds) = .tup [iN k, d] :: enN (k + 1) ds := by
  unfold enN
  rw [List.length_cons, List.range'_succ, List.zipWith_cons_cons]
/-! multiples -/
def SpMulTo (k : Nat) (F : Fn) : Prop := ∀ (L : List Nat) (b n W : Nat) (S : Sto), L.length < k → 0 < W → W ≤ 1000 → b ∣ W → (∀ l ∈ L, l ∣ W) → L.length ≤ 1000 → F [.lst (L.map iN), iN b, iN n] S = .ok (iN (mulTo L b n)) S
theorem mul_loop {k : Nat} {F1 Fr : Fn} (h1 : SpLcm 1000 F1) (hr : SpMulTo k Fr) {L : List Nat} {b n W : Nat} {S : Sto} (hk : L.length < k + 1) (w0 : 0 < W) (w1 : W ≤ 1000) (hb : b ∣ W) (hL : ∀ l ∈ L, l ∣ W) (hl : L.length ≤ 1000) : ∀ (suf pre : List Nat) (f : Nat) (x4 x5 x6 : Option D), L = pre ++ suf →
    ∃ y4 y5 y6, loopD (gTup' 2 (gsCons (gName' 4) (gsCons (gName' 5) gsNil))) (B_multiples_to_L1 F1 Fr) (enN pre.length (suf.map iN)) [some (.lst (L.map iN)), some (iN b), some (iN n), some (iN f), x4, x5, x6] S = .ok (.nx [some (.lst (L.map iN)), some (iN b), some (iN n), some (iN (f + mulTo suf b n)), y4, y5, y6]) S
  | [], pre, f, x4, x5, x6, _ => ⟨x4, x5, x6, rfl⟩
  | l :: suf, pre, f, x4, x5, x6, e => by
    have ml : l ∈ L := by rw [e]; simp
    have ld := hL l ml
    have l0 := Nat.pos_of_dvd_of_pos ld w0
    have b0 := Nat.pos_of_dvd_of_pos hb w0
    have l1 := Nat.le_of_dvd w0 ld
    have b1 := Nat.le_of_dvd w0 hb
    have cd : Nat.lcm b l ∣ W := Nat.lcm_dvd hb ld
    have c0 := Nat.lcm_pos b0 l0
    have c1 := Nat.le_of_dvd w0 cd
    have e1 : F1 [.lst [iN b, iN l]] S = .ok (iN (Nat.lcm b l)) S := by
      have := h1 [b, l] S (by intro x hx; simp at hx; rcases hx with rfl | rfl <;> omega)
      rw [show lcmL [b, l] = Nat.lcm b l by unfold lcmL; simp] at this
      exact this
    have ls : suf.length < k := by rw [e] at hk; simp at hk; omega
    have msuf : ∀ x ∈ suf, x ∣ W := fun x hx => hL x (by rw [e]; simp [hx])
    have hl' : suf.length ≤ 1000 := by rw [e] at hl; simp at hl; omega
    have e2 := hr suf (Nat.lcm b l) n W S ls w0 w1 cd msuf hl'
    have dr : cutL (L.map iN) (some ((pre.length : Int) + 1)) none = suf.map iN := by
      have := cut_drop' (L.map iN) (pre.length + 1)
      rw [← List.map_drop] at this
      rw [show ((pre.length : Int) + 1) = ((pre.length + 1 : Nat) : Int) by omega, this]
      congr 1
      rw [e, show pre ++ l :: suf = (pre ++ [l]) ++ suf by simp, List.drop_append_of_le_length (by simp)]
      simp
    have dv : fdivD (iN n) (iN (Nat.lcm b l)) = some (iN (n / Nat.lcm b l)) := by rw [fdivD_int (by omega) (by omega)]; rfl
    have le := mulTo_le suf (Nat.lcm b l) n c0 fun x hx => Nat.pos_of_dvd_of_pos (msuf x hx) w0
    have fw : few [iN b, iN l] = some [iN b, iN l] := few_ok (by simp)
    have e' : L = (pre ++ [l]) ++ suf := by rw [e]; simp
    rw [List.map_cons, enN_cons]
    by_cases c : Nat.lcm b l ≤ n
    · have q : (f : Int) + ((n / Nat.lcm b l : Nat) : Int) - ((mulTo suf (Nat.lcm b l) n : Nat) : Int) = ((f + (n / Nat.lcm b l - mulTo suf (Nat.lcm b l) n) : Nat) : Int) := by omega
      obtain ⟨y4, y5, y6, ih⟩ := mul_loop h1 hr hk w0 w1 hb hL hl suf (pre ++ [l]) (f + (n / Nat.lcm b l - mulTo suf (Nat.lcm b l) n)) (some (iN pre.length)) (some (iN l)) (some (iN (Nat.lcm b l))) e'
      refine ⟨y4, y5, y6, ?_⟩
      rw [loopD_step (r' := [some (.lst (L.map iN)), some (iN b), some (iN n), some (iN (f + (n / Nat.lcm b l - mulTo suf (Nat.lcm b l) n))), some (iN pre.length), some (iN l), some (iN (Nat.lcm b l))]) (S' := S) (by
        simp_arith only [B_multiples_to_L1, fw, e1, decide_eq_true (show ((Nat.lcm b l : Nat) : Int) ≤ (n : Int) by omega), dv, dr, e2, q])]
      rw [List.length_append, List.length_singleton] at ih
      rw [ih]
      have : mulTo (l :: suf) b n = (if Nat.lcm b l ≤ n then n / Nat.lcm b l - mulTo suf (Nat.lcm b l) n else 0) + mulTo suf b n := rfl
      rw [this, if_pos c, Nat.add_assoc]
    · obtain ⟨y4, y5, y6, ih⟩ := mul_loop h1 hr hk w0 w1 hb hL hl suf (pre ++ [l]) f (some (iN pre.length)) (some (iN l)) (some (iN (Nat.lcm b l))) e'
      refine ⟨y4, y5, y6, ?_⟩
      rw [loopD_step (r' := [some (.lst (L.map iN)), some (iN b), some (iN n), some (iN f), some (iN pre.length), some (iN l), some (iN (Nat.lcm b l))]) (S' := S) (by
        simp_arith only [B_multiples_to_L1, fw, e1, decide_eq_false (show ¬ ((Nat.lcm b l : Nat) : Int) ≤ (n : Int) by omega)])]
      rw [List.length_append, List.length_singleton] at ih
      rw [ih]
      have : mulTo (l :: suf) b n = (if Nat.lcm b l ≤ n then n / Nat.lcm b l - mulTo suf (Nat.lcm b l) n else 0) + mulTo suf b n := rfl
      rw [this, if_neg c, Nat.zero_add]
theorem multiples_step {k : Nat} {F1 Fr : Fn} (h1 : SpLcm 1000 F1) (hr : SpMulTo k Fr) : SpMulTo (k + 1) (dBody false 7 (B_multiples_to F1 Fr)) := by
  intro L b n W S hk w0 w1 hb hL hl
  obtain ⟨y4, y5, y6, e⟩ := mul_loop h1 hr (n := n) (S := S) hk w0 w1 hb hL hl L [] 0 none none none rfl
  have e : loopD (gTup' 2 (gsCons (gName' 4) (gsCons (gName' 5) gsNil))) (B_multiples_to_L1 F1 Fr) (enN 0 (L.map iN)) [some (.lst (L.map iN)), some (iN b), some (iN n), some (.int 0), none, none, none] S = _ := e
  rw [Nat.zero_add] at e
  show doneR false S (B_multiples_to F1 Fr [some (.lst (L.map iN)), some (iN b), some (iN n), none, none, none, none] S) = _
  simp_arith only [B_multiples_to, enN_0, e, done_eq]
/-! how many to a number -/
theorem hasB_mul {P : Nat} {G : List Nat} (h : Clo P G) (n : Nat) : decide (Nat.gcd n P ∈ G) = mulOf (leasts G) n := by
  rw [Bool.eq_iff_iff, decide_eq_true_eq, mulOf_iff]
  exact h.gcd_iff n
def SpMany (F : Fn) : Prop := ∀ (P : Nat) (G O : List Nat) (n : Nat) (S : Sto), Vm P G O → F [formD P G O, iN n] S = .ok (iN (cnt (hasB P G O) n)) S
theorem many_to_ok {k : Nat} {F1 F2 : Fn} (h1 : SpLeasts F1) (h2 : SpMulTo k F2) (hk : 60 < k) : SpMany (dBody false 6 (B_many_to F1 F2)) := by
  intro P G O n S v
  have lL : (leasts G).length ≤ 60 := Nat.le_trans (List.length_filter_le ..) v.few
  have e1 := h1 (.tup (G.map iN)) G S (.inr rfl) (fun g hg => v.clo.gpos hg) (by have := v.few; omega)
  have e2 := h2 (leasts G) 1 n P S (by omega) v.clo.pos v.le (Nat.one_dvd P) (fun l hl => v.clo.dv l (mem_leasts.mp hl).1) (by omega)
  have e3 := compD_filter (S := S) (b := gName' 5) (t := B_many_to_T1 F1 F2) (e := eVar 5) (r0 := [some (formD P G O), some (iN n), some (iN P), some (.tup (G.map iN)), some (.tup (O.map iN)), none]) iN (fun o => decide (o ≤ n)) O (fun o ho => by
    by_cases q : o ≤ n
    · simp_arith only [B_many_to_T1, decide_eq_true (show (o : Int) ≤ (n : Int) by omega), decide_eq_true q]
    · simp_arith only [B_many_to_T1, decide_eq_false (show ¬ (o : Int) ≤ (n : Int) by omega), decide_eq_false q]) (by have := v.len; omega)
  have lp : ∀ l ∈ leasts G, 0 < l := fun l hl => v.clo.gpos (mem_leasts.mp hl).1
  have c1 : mulTo (leasts G) 1 n = cnt (mulOf (leasts G)) n := by
    rw [mulTo_cnt _ _ _ (by omega) lp]
    refine cnt_congr n fun m _ _ => ?_
    show (m % 1 == 0 && mulOf (leasts G) m) = mulOf (leasts G) m
    rw [Nat.mod_one]
    rfl
  have nd : O.Nodup := v.ord.imp fun {a b} (q : a < b) => by omega
  have c2 := cnt_out (f := mulOf (leasts G)) nd (fun o ho => ⟨(v.out o ho).1, by rw [← hasB_mul v.clo]; exact decide_eq_true (v.out o ho).2⟩) n
  have c3 : cnt (hasB P G O) n = cnt (fun m => mulOf (leasts G) m && !decide (m ∈ O)) n := cnt_congr n fun m _ _ => by unfold hasB; rw [hasB_mul v.clo]
  have e2 : F2 [.lst ((leasts G).map iN), .int 1, iN n] S = .ok (iN (cnt (mulOf (leasts G)) n)) S := by rw [← c1]; exact e2
  have q : ((cnt (mulOf (leasts G)) n : Nat) : Int) - ((((O.filter fun o => decide (o ≤ n)).map iN).length : Nat) : Int) = ((cnt (hasB P G O) n : Nat) : Int) := by
    rw [List.length_map, c3]
    omega
  show doneR false S (B_many_to F1 F2 [some (formD P G O), some (iN n), none, none, none, none] S) = _
  unfold formD at e3 ⊢
  simp_arith only [B_many_to, e1, e2, e3, q, done_eq]
/-! the k-th -/
theorem small2 : FL.small64 2 = true := small_nat (l := 2) (by omega)
def SpNth (F : Fn) : Prop := ∀ (P : Nat) (G O : List Nat) (k : Nat) (S : Sto), Vm P G O → (∃ H, k < cnt (hasB P G O) H) → ∃ x, F [formD P G O, iN k] S = .ok (iN x) S ∧ k < cnt (hasB P G O) x ∧ cnt (hasB P G O) (x - 1) ≤ k
section
variable {F1 : Fn} (h1 : SpMany F1) {P : Nat} {G O : List Nat} (v : Vm P G O) {k : Nat} {S : Sto}
include h1 v
theorem nth_up {H : Nat} (hH : k < cnt (hasB P G O) H) : ∀ (j low high : Nat), H ≤ high + j → 1 ≤ high → low < high → cnt (hasB P G O) low ≤ k → ∃ l h, l < h ∧ cnt (hasB P G O) l ≤ k ∧ k < cnt (hasB P G O) h ∧
    sWhile (B_nth_of_T1 F1) (B_nth_of_L1 F1) [some (formD P G O), some (iN k), some (iN low), some (iN high), none] S = .ok (.nx [some (formD P G O), some (iN k), some (iN l), some (iN h), none]) S
  | j, low, high, hj, h0, hl, hc => by
    have e1 := h1 P G O high S v
    by_cases q : cnt (hasB P G O) high ≤ k
    · cases j with
      | zero => have := cnt_mono (hasB P G O) (show H ≤ high by omega); omega
      | succ j =>
        obtain ⟨l, h, a, b, c, e⟩ := nth_up hH j high (2 * high) (by omega) (by omega) (by omega) q
        refine ⟨l, h, a, b, c, ?_⟩
        have m : mulD (.int 2) (iN high) = some (iN (2 * high)) := by rw [mulD_small (.inl small2)]; rfl
        have t1 : B_nth_of_T1 F1 [some (formD P G O), some (iN k), some (iN low), some (iN high), none] S = .ok true S := by
          simp_arith only [B_nth_of_T1, formD, show F1 [.tup [iN P, .tup (G.map iN), .tup (O.map iN)], iN high] S = _ from e1, decide_eq_true (show ((cnt (hasB P G O) high : Nat) : Int) ≤ (k : Int) by omega)]
        have t2 : B_nth_of_L1 F1 [some (formD P G O), some (iN k), some (iN low), some (iN high), none] S = .ok (.nx [some (formD P G O), some (iN k), some (iN high), some (iN (2 * high)), none]) S := by
          simp_arith only [B_nth_of_L1, m]
        rw [sWhile_go t1 t2, e]
    · refine ⟨low, high, hl, hc, by omega, ?_⟩
      have t1 : B_nth_of_T1 F1 [some (formD P G O), some (iN k), some (iN low), some (iN high), none] S = .ok false S := by
        simp_arith only [B_nth_of_T1, formD, show F1 [.tup [iN P, .tup (G.map iN), .tup (O.map iN)], iN high] S = _ from e1, decide_eq_false (show ¬ ((cnt (hasB P G O) high : Nat) : Int) ≤ (k : Int) by omega)]
      rw [sWhile_stop t1]
theorem nth_in : ∀ (j low high : Nat) (x4 : Option D), high ≤ low + j → low < high → cnt (hasB P G O) low ≤ k → k < cnt (hasB P G O) high → ∃ h l y4, k < cnt (hasB P G O) h ∧ cnt (hasB P G O) (h - 1) ≤ k ∧
    sWhile (B_nth_of_T2 F1) (B_nth_of_L2 F1) [some (formD P G O), some (iN k), some (iN low), some (iN high), x4] S = .ok (.nx [some (formD P G O), some (iN k), some (iN l), some (iN h), y4]) S
  | j, low, high, x4, hj, hl, h2, h3 => by
    by_cases q : low + 1 < high
    · cases j with
      | zero => omega
      | succ j =>
        have dv : fdivD (.int ((low : Int) + (high : Int))) (.int 2) = some (iN ((low + high) / 2)) := by rw [fdivD_int (by omega) (by omega)]; rfl
        have t1 : B_nth_of_T2 F1 [some (formD P G O), some (iN k), some (iN low), some (iN high), x4] S = .ok true S := by
          simp_arith only [B_nth_of_T2, decide_eq_true (show (1 : Int) < (high : Int) - (low : Int) by omega)]
        have e1 := h1 P G O ((low + high) / 2) S v
        by_cases z : cnt (hasB P G O) ((low + high) / 2) ≤ k
        · obtain ⟨h, l, y4, a, b, e⟩ := nth_in j ((low + high) / 2) high (some (iN ((low + high) / 2))) (by omega) (by omega) z h3
          refine ⟨h, l, y4, a, b, ?_⟩
          have t2 : B_nth_of_L2 F1 [some (formD P G O), some (iN k), some (iN low), some (iN high), x4] S = .ok (.nx [some (formD P G O), some (iN k), some (iN ((low + high) / 2)), some (iN high), some (iN ((low + high) / 2))]) S := by
            simp_arith only [B_nth_of_L2, dv, formD, show F1 [.tup [iN P, .tup (G.map iN), .tup (O.map iN)], iN ((low + high) / 2)] S = _ from e1, decide_eq_true (show ((cnt (hasB P G O) ((low + high) / 2) : Nat) : Int) ≤ (k : Int) by omega)]
          rw [sWhile_go t1 t2, e]
        · obtain ⟨h, l, y4, a, b, e⟩ := nth_in j low ((low + high) / 2) (some (iN ((low + high) / 2))) (by omega) (by omega) h2 (by omega)
          refine ⟨h, l, y4, a, b, ?_⟩
          have t2 : B_nth_of_L2 F1 [some (formD P G O), some (iN k), some (iN low), some (iN high), x4] S = .ok (.nx [some (formD P G O), some (iN k), some (iN low), some (iN ((low + high) / 2)), some (iN ((low + high) / 2))]) S := by
            simp_arith only [B_nth_of_L2, dv, formD, show F1 [.tup [iN P, .tup (G.map iN), .tup (O.map iN)], iN ((low + high) / 2)] S = _ from e1, decide_eq_false (show ¬ ((cnt (hasB P G O) ((low + high) / 2) : Nat) : Int) ≤ (k : Int) by omega)]
          rw [sWhile_go t1 t2, e]
    · have t1 : B_nth_of_T2 F1 [some (formD P G O), some (iN k), some (iN low), some (iN high), x4] S = .ok false S := by
        simp_arith only [B_nth_of_T2, decide_eq_false (show ¬ (1 : Int) < (high : Int) - (low : Int) by omega)]
      refine ⟨high, low, x4, h3, ?_, sWhile_stop t1⟩
      rw [show high - 1 = low by omega]
      exact h2
end
theorem nth_of_ok {F1 : Fn} (h1 : SpMany F1) : SpNth (dBody false 5 (B_nth_of F1)) := by
  intro P G O k S v ⟨H, hH⟩
  obtain ⟨l, h, a, b, c, e1⟩ := nth_up h1 v (S := S) hH H 0 P (by omega) v.clo.pos v.clo.pos (by rw [cnt_0]; omega)
  obtain ⟨x, l', y4, d1, d2, e2⟩ := nth_in h1 v (k := k) (S := S) h l h none (by omega) a b c
  refine ⟨x, ?_, d1, d2⟩
  have e1 : sWhile (B_nth_of_T1 F1) (B_nth_of_L1 F1) [some (.tup [iN P, .tup (G.map iN), .tup (O.map iN)]), some (iN k), some (.int 0), some (iN P), none] S = _ := e1
  unfold formD at e1 e2
  show doneR false S (B_nth_of F1 [some (.tup [iN P, .tup (G.map iN), .tup (O.map iN)]), some (iN k), none, none, none] S) = _
  simp_arith only [B_nth_of, ixD_tup, atI_0, e1, e2, done_eq]
/-! the least bits -/
def optN : Option Nat → D
  | none => .non
  | some e => iN e
def SpBits (F : Fn) : Prop := ∀ (P : Nat) (G O : List Nat) (S : Sto), Vm P G O → ∃ v r, P = 2 ^ v * r ∧ r % 2 = 1 ∧ F [formD P G O] S = .ok (optN ((List.range (O.length + 1 + v + 1)).find? fun e => hasB P G O (2 ^ e))) S
theorem bits_up {F1 : Fn} {x0 x1 x2 x3 x4 x7 : Option D} {S : Sto} : ∀ (j rest last : Nat), rest ≤ j → 0 < rest → ∃ v r, rest = 2 ^ v * r ∧ r % 2 = 1 ∧
    sWhile (B_least_bits_T1 F1) (B_least_bits_L1 F1) [x0, x1, x2, x3, x4, some (iN last), some (iN rest), x7] S = .ok (.nx [x0, x1, x2, x3, x4, some (iN (last + v)), some (iN r), x7]) S
  | j, rest, last, hj, h0 => by
    obtain ⟨m1, m2⟩ := mod_zero (n := rest) (d := 2) (by omega)
    have m1 : modD (iN rest) (.int 2) = some (iN (rest % 2)) := m1
    by_cases q : rest % 2 = 0
    · cases j with
      | zero => omega
      | succ j =>
        obtain ⟨v, r, a, b, e⟩ := bits_up (x0 := x0) (x1 := x1) (x2 := x2) (x3 := x3) (x4 := x4) (x7 := x7) (F1 := F1) (S := S) j (rest / 2) (last + 1) (by omega) (by omega)
        refine ⟨v + 1, r, ?_, b, ?_⟩
        · rw [Nat.pow_succ, Nat.mul_assoc, Nat.mul_left_comm, ← a]; omega
        · have t1 : B_least_bits_T1 F1 [x0, x1, x2, x3, x4, some (iN last), some (iN rest), x7] S = .ok true S := by
            have z : (rest % 2 == 0) = true := by rw [q]; rfl
            simp_arith only [B_least_bits_T1, m1, m2, z]
          have dv : fdivD (iN rest) (.int 2) = some (iN (rest / 2)) := by rw [fdivD_int (by omega) (by omega)]; rfl
          have t2 : B_least_bits_L1 F1 [x0, x1, x2, x3, x4, some (iN last), some (iN rest), x7] S = .ok (.nx [x0, x1, x2, x3, x4, some (iN (last + 1)), some (iN (rest / 2)), x7]) S := by
            simp_arith only [B_least_bits_L1, dv]
            rfl
          rw [sWhile_go t1 t2, e, show last + 1 + v = last + (v + 1) by omega]
    · refine ⟨0, rest, by simp, by omega, ?_⟩
      have t1 : B_least_bits_T1 F1 [x0, x1, x2, x3, x4, some (iN last), some (iN rest), x7] S = .ok false S := by
        have z : (rest % 2 == 0) = false := by rw [beq_eq_false_iff_ne]; exact q
        simp_arith only [B_least_bits_T1, m1, m2, z]
      rw [sWhile_stop t1]
      rfl
theorem bits_loop {F1 : Fn} (h1 : SpHas F1) {P : Nat} {G O : List Nat} (hP : P ≤ 1000) {x1 x2 x3 x5 x6 : Option D} {S : Sto} : ∀ (k e : Nat) (x7 : Option D),
    (∃ e', (List.range' e k).find? (fun e => hasB P G O (2 ^ e)) = some e' ∧ loopD (gName' 7) (B_least_bits_L2 F1) ((List.range' e k).map iN) [some (formD P G O), x1, x2, x3, some (iN (2 ^ e)), x5, x6, x7] S = .ok (.rt (iN e')) S) ∨
    ((List.range' e k).find? (fun e => hasB P G O (2 ^ e)) = none ∧ ∃ r', loopD (gName' 7) (B_least_bits_L2 F1) ((List.range' e k).map iN) [some (formD P G O), x1, x2, x3, some (iN (2 ^ e)), x5, x6, x7] S = .ok (.nx r') S)
  | 0, e, x7 => .inr ⟨rfl, _, rfl⟩
  | k + 1, e, x7 => by
    have e1 := h1 P G O (2 ^ e) S hP
    rw [List.range'_succ, List.map_cons, List.find?_cons]
    cases q : hasB P G O (2 ^ e) with
    | true =>
      rw [q] at e1
      refine .inl ⟨e, rfl, ?_⟩
      have st : lStep (gName' 7) (B_least_bits_L2 F1) (iN e) [some (formD P G O), x1, x2, x3, some (iN (2 ^ e)), x5, x6, x7] S = .ok (.rt (iN e)) S := by
        simp_arith only [B_least_bits_L2, formD, show F1 [.tup [iN P, .tup (G.map iN), .tup (O.map iN)], iN (2 ^ e)] S = _ from e1]
      rw [loopD_cons]
      simp only [bnd, st]
      rfl
    | false =>
      rw [q] at e1
      have m : mulD (iN (2 ^ e)) (.int 2) = some (iN (2 ^ (e + 1))) := by
        rw [mulD_small (.inr small2), Nat.pow_succ]; rfl
      have st : lStep (gName' 7) (B_least_bits_L2 F1) (iN e) [some (formD P G O), x1, x2, x3, some (iN (2 ^ e)), x5, x6, x7] S = .ok (.nx [some (formD P G O), x1, x2, x3, some (iN (2 ^ (e + 1))), x5, x6, some (iN e)]) S := by
        simp_arith only [B_least_bits_L2, formD, show F1 [.tup [iN P, .tup (G.map iN), .tup (O.map iN)], iN (2 ^ e)] S = _ from e1, m]
      rcases bits_loop h1 hP k (e + 1) (some (iN e)) (x1 := x1) (x2 := x2) (x3 := x3) (x5 := x5) (x6 := x6) (S := S) with ⟨e', a, b⟩ | ⟨a, r', b⟩
      · exact .inl ⟨e', a, by rw [loopD_step st]; exact b⟩
      · exact .inr ⟨a, r', by rw [loopD_step st]; exact b⟩
theorem least_bits_ok {F1 : Fn} (h1 : SpHas F1) : SpBits (dBody false 8 (B_least_bits F1)) := by
  intro P G O S v
  obtain ⟨w, r, a, b, e1⟩ := bits_up (F1 := F1) (x0 := some (formD P G O)) (x1 := some (iN P)) (x2 := some (.tup (G.map iN))) (x3 := some (.tup (O.map iN))) (x4 := some (iN 1)) (x7 := none) (S := S) P P (O.length + 1) (Nat.le_refl _) v.clo.pos
  refine ⟨w, r, a, b, ?_⟩
  have w10 : 2 ^ w ≤ 1000 := Nat.le_trans (Nat.le_of_dvd v.clo.pos ⟨r, a⟩) v.le
  have w20 : w < 1000 := Nat.lt_of_lt_of_le Nat.lt_two_pow_self w10
  have rg : rangeD1 [.int (((O.length + 1 + w : Nat) : Int) + 1)] = some ((List.range' 0 (O.length + 1 + w + 1)).map iN) := by
    have := range1 (n := O.length + 1 + w + 1) (by have := v.len; omega)
    rw [← List.range_eq_range']
    exact this
  have ln : (((O.map iN).length : Nat) : Int) + 1 = ((O.length + 1 : Nat) : Int) := by rw [List.length_map]; rfl
  rw [List.range_eq_range']
  show doneR false S (B_least_bits F1 [some (formD P G O), none, none, none, none, none, none, none] S) = _
  have lp := bits_loop h1 v.le (G := G) (O := O) (x1 := some (iN P)) (x2 := some (.tup (G.map iN))) (x3 := some (.tup (O.map iN))) (x5 := some (iN (O.length + 1 + w))) (x6 := some (iN r)) (S := S) (O.length + 1 + w + 1) 0 none
  have e1 : sWhile (B_least_bits_T1 F1) (B_least_bits_L1 F1) [some (formD P G O), some (iN P), some (.tup (G.map iN)), some (.tup (O.map iN)), some (.int 1), some (.int ((O.length + 1 : Nat) : Int)), some (iN P), none] S = .ok (.nx [some (formD P G O), some (iN P), some (.tup (G.map iN)), some (.tup (O.map iN)), some (iN (2 ^ 0)), some (iN (O.length + 1 + w)), some (iN r), none]) S := e1
  unfold formD at e1 lp ⊢
  rcases lp with ⟨e', a, b⟩ | ⟨a, r', b⟩
  · rw [a]
    simp_arith only [B_least_bits, ln, e1, rg, b, done_eq]
    rfl
  · rw [a]
    simp_arith only [B_least_bits, ln, e1, rg, b, done_eq]
    rfl
end SS
end
section
set_option Elab.async false
set_option linter.all false
set_option maxRecDepth 100000
set_option autoImplicit false
set_option maxHeartbeats 4000000
namespace SS
open PySem PySem.Spec PyProof.Rows L2 FL
local macro_rules
  | `(tactic| simp_arith only [$xs,*]) => `(tactic| simp (config := { implicitDefEqProofs := false }) only [tn_ok, oR_some, nx_ok, ev_var, ev_c, ev_bin, ev_kBin1, ev_kBin2, ev_un, ev_kUn, ev_asB, ev_kB, ev_asT, ev_kT, ev_tAnd2, ev_kAndT, ev_kAndF, ev_tOr2, ev_kOrT, ev_kOrF, ev_not, ev_kNot, ev_eAnd2, ev_kAndE, ev_kAndET, ev_kAndEF, ev_eOr2, ev_kOrE, ev_kOrET, ev_kOrEF, ev_eNot1, ev_kNotE, ev_kNotE2, ev_if, ev_kIfT, ev_kIfF, ev_aNil, ev_aCons, ev_kCons, ev_kCons2, ev_aStar, ev_kStar, ev_kStar2, ev_kStar3, ev_eTup, ev_kTup, ev_kTup2, ev_eLst, ev_kLst, ev_kLst2, ev_eNewL, ev_kNewL, ev_kNewL2, ev_newD, ev_callP, ev_kCallP, ev_call, ev_kCall, ev_kCall2, ev_oNone, ev_oSome, ev_kO, ev_kO2, ev_sl, ev_kSl, ev_kSl2, ev_kSl3, ev_sl3, ev_kT1, ev_kT2, ev_kT3, ev_kT4, ev_listRg, ev_kLR, ev_kLR2, ev_forM, ev_forMr, ev_forMl, ev_forMt, ev_forR, ev_meth, ev_kM, ev_kM2, ev_kM3, ev_meth0, ev_kM0, ev_chain, ev_kCh, ev_kCh2, ev_kCh3T, ev_kCh3F, ev_kCh4, ev_kLs, ev_kComp, ev_comp, ev_kRef, ev_compM, ev_kComp2, ev_comp2, ev_iSeq, ev_kIt, ev_iRange, ev_kRg, ev_enT, ev_enL, ev_iEnum, items_lst, items_tup, items_str, ev_true, ev_ret, ev_kRet, ev_expr, ev_kEx, ev_asg, ev_kAsg, ev_kNx, ev_seq, ev_kSeqN, ev_kSeqR, ev_kSeqB, ev_kSeqC, ev_ifS, ev_kIfST, ev_kIfSF, ev_for, ev_kFor, ev_next, ev_retN, ev_break, ev_cont, ev_par, ev_kPar, ev_par3, ev_kPar3, ev_gName, ev_gTup, ev_gsNil, ev_gsCons, ev_kGs, ev_gSub, ev_kSub, ev_kSub2, ev_kSub3, ev_kSub4, ev_mut, ev_kMu, ev_kMu2, ev_kMu3, ev_kMu4, ev_catM, ev_kCat, ev_kCat2, ev_catR, vw_non, vw_bl, vw_int, vw_str, vw_lst, vw_tup, vw_dct, vw_ref, vwO_lst, vwO_dct, tru_bl, tru_int, tru_lst, tru_tup, tru_non, add_int, add_lst, add_tup, add_str, sub_int, neg_int, gt_int, ge_int, lt_int, le_int, len_lst, len_tup, len_dct, len_str, int_int, tuple_lst, tuple_tup, list_lst, list_tup, sl_lst, sl_tup, is_non, isnt_non, non_bl, non_int, non_str, non_lst, non_tup, non_non, int_int?, ref_ref?, alt_tup, alt_lst, isi_int_non, isi_int_bl, isi_int_int, isi_int_str, isi_int_lst, isi_int_tup, isi_bool_non, isi_bool_bl, isi_bool_int, isi_bool_str, isi_bool_lst, isi_bool_tup, isi_str_non, isi_str_bl, isi_str_int, isi_str_str, isi_str_lst, isi_str_tup, isi_tuple_non, isi_tuple_bl, isi_tuple_int, isi_tuple_str, isi_tuple_lst, isi_tuple_tup, isi_list_non, isi_list_bl, isi_list_int, isi_list_str, isi_list_lst, isi_list_tup, isi_dict_non, isi_dict_bl, isi_dict_int, isi_dict_str, isi_dict_lst, isi_dict_tup, tyIn_lst2, tyD_lst, tyIn_tup2, tyD_tup, tyIn_str, tyD_str, tyIn_dct, tyD_dct, ev_cStep, ev_kC, ev_kC2T, ev_kC2F, ev_kSome, ev_cStep2, ev_kD, ev_kD2T, ev_kD2F, ev_kD3, ev_lStep, ev_kL, List.getElem?_cons_zero, List.getElem?_cons_succ, Option.join_some, Option.bind_some, Option.map_some, wipeE, List.set_cons_zero, List.set_cons_succ, List.length_cons, List.length_nil, List.map_cons, List.map_nil, gAll, gDef, List.cons_append, List.nil_append, if_true, if_false, Bool.not_true, Bool.not_false, Nat.zero_add, Nat.reduceAdd, Nat.reduceLeDiff, and_true, and_self, true_and, reduceIte, Bool.false_eq_true, $xs,*])
/-! ## instances: rules -/
def kFld (tb : List Str) (f : Str) (x : D) (S : Sto) : R D := match x.ins? S with
  | some (C, fs) => if tb.contains C = true then opt (fs.lookup f) S else .no
  | none => .no
theorem ev_fld (tb : List Str) (f : Str) (fa : FEx) (r : FL.Env) (S : Sto) : eFld tb f fa r S = tn (fa r S) (kFld tb f) := by
  show bnd (fa r) _ S = _
  simp only [bnd, tn]
  cases fa r S <;> rfl
def kAt (tbP : List (Str × (List D → M D))) (tbF : List Str) (f : Str) (x : D) (S : Sto) : R D := match x.ins? S with
  | some (C, fs) => (match tbP.lookup C with
    | some F => F [x] S
    | none => if tbF.contains C = true then opt (fs.lookup f) S else .no)
  | none => .no
theorem ev_attr (tbP : List (Str × (List D → M D))) (tbF : List Str) (f : Str) (fa : FEx) (r : FL.Env) (S : Sto) : eAttrM tbP tbF f fa r S = tn (fa r S) (kAt tbP tbF f) := by
  show bnd (fa r) _ S = _
  simp only [bnd, tn]
  cases fa r S <;> rfl
def kIsO (tb : List (Str × Bool)) (d : D) (S : Sto) : R D := match d.ins? S with
  | some (C, _) => (match tb.lookup C with
    | some b => .ok (.bl b) S
    | none => .no)
  | none => (match nmD (vw S d) with
    | some _ => .ok (.bl false) S
    | none => .no)
theorem ev_isO (tb : List (Str × Bool)) (fa : FEx) (r : FL.Env) (S : Sto) : eIsO tb fa r S = tn (fa r S) (kIsO tb) := by
  show bnd (fa r) _ S = _
  simp only [bnd, tn]
  cases fa r S <;> rfl
def kBM (h : D → D → M D) (fb : FEx) (r : FL.Env) (x : D) (S : Sto) : R D := tn (fb r S) (h x)
theorem ev_binM (h : D → D → M D) (fa fb : FEx) (r : FL.Env) (S : Sto) : eBinM h fa fb r S = tn (fa r S) (kBM h fb r) := by
  show bnd (fa r) _ S = _
  simp only [bnd, tn]
  cases fa r S with
  | ok x S1 => simp only [kBM, tn] <;> (cases fb r S1 <;> rfl)
  | _ => rfl
theorem ev_kBM (h : D → D → M D) (fb : FEx) (r : FL.Env) (x : D) (S : Sto) : kBM h fb r x S = tn (fb r S) (h x) := rfl
noncomputable def kMk2 (C : Str) (n m : Nat) (g : List D → List D → List D) (F : List D → M D) (ds es : List D) (S : Sto) : R D := if ds.length = n ∧ es.length = m then cutI S C (F (g (.ref S.length :: ds) es) (S ++ [.ins C []])) else .no
noncomputable def kMk1 (C : Str) (n m : Nat) (g : List D → List D → List D) (F : List D → M D) (fk : FAx) (r : FL.Env) (ds : List D) (S : Sto) : R D := tn (fk r S) (kMk2 C n m g F ds)
theorem ev_make (C : Str) (n m : Nat) (g : List D → List D → List D) (F : List D → M D) (fa fk : FAx) (r : FL.Env) (S : Sto) : eMake C n m g F fa fk r S = tn (fa r S) (kMk1 C n m g F fk r) := by
  show bnd (fa r) _ S = _
  simp only [bnd, tn]
  cases fa r S with
  | ok x S1 => simp only [kMk1, tn] <;> (cases fk r S1 <;> rfl)
  | _ => rfl
theorem ev_kMk1 (C : Str) (n m : Nat) (g : List D → List D → List D) (F : List D → M D) (fk : FAx) (r : FL.Env) (ds : List D) (S : Sto) : kMk1 C n m g F fk r ds S = tn (fk r S) (kMk2 C n m g F ds) := rfl
def kSF2 (tb : List Str) (f : Str) (r : FL.Env) (d : D) (x : D) (S : Sto) : R Fl := match x with
  | .ref n => match S[n]? with
    | some (.ins C fs) => if tb.contains C = true ∧ fs.length < 1000 then .ok (.nx r) (S.set n (.ins C (putFD f d fs))) else .no
    | _ => .no
  | _ => .no
def kSF1 (tb : List Str) (f : Str) (fo : FEx) (r : FL.Env) (d : D) (S : Sto) : R Fl := tn (fo r S) (kSF2 tb f r d)
theorem ev_sfld (tb : List Str) (f : Str) (fo fe : FEx) (r : FL.Env) (S : Sto) : sFldM tb f fo fe r S = tn (fe r S) (kSF1 tb f fo r) := by
  show bnd (fe r) _ S = _
  simp only [bnd, tn]
  cases fe r S with
  | ok x S1 =>
    simp only [kSF1, tn]
    cases fo r S1 with
    | ok y S2 => cases y <;> rfl
    | _ => rfl
  | _ => rfl
theorem ev_kSF1 (tb : List Str) (f : Str) (fo : FEx) (r : FL.Env) (d : D) (S : Sto) : kSF1 tb f fo r d S = tn (fo r S) (kSF2 tb f r d) := rfl
theorem lookup1 {α : Type} (C : Str) (a : α) : List.lookup C [(C, a)] = some a := by simp [List.lookup]
theorem contains1 (C : Str) : List.contains [C] C = true := by simp
/-! ## Moduli -/
def mO (P : Nat) (G O : List Nat) : D := .obj "Moduli" ["own_form"] [formD P G O]
theorem mO_ins (P : Nat) (G O : List Nat) (S : Sto) : (mO P G O).ins? S = some (("Moduli" : Str), [(("own_form" : Str), formD P G O)]) := rfl
theorem kFld_mO (P : Nat) (G O : List Nat) (S : Sto) : kFld ["Moduli"] "own_form" (mO P G O) S = .ok (formD P G O) S := by
  unfold kFld
  rw [mO_ins]
  simp only [contains1, if_true, lookup1]
  rfl
theorem kAt_mO (F : Fn) (f : Str) (P : Nat) (G O : List Nat) (S : Sto) : kAt [("Moduli", F)] [] f (mO P G O) S = F [mO P G O] S := by
  unfold kAt
  rw [mO_ins]
  simp only [lookup1]
theorem kIsO_mO (P : Nat) (G O : List Nat) (S : Sto) : kIsO [("Moduli", true)] (mO P G O) S = .ok (.bl true) S := by
  unfold kIsO
  rw [mO_ins]
  simp only [lookup1]
theorem hIn_mO (neg : Bool) (F : Fn) (g : D → D → Option D) (x : D) (P : Nat) (G O : List Nat) (S : Sto) : hIn neg [("Moduli", F)] g x (mO P G O) S = bR neg (F [mO P G O, x] S) := by
  unfold hIn
  rw [mO_ins]
  simp only [lookup1]
theorem hIx_mO (F : Fn) (g : D → D → Option D) (x : D) (P : Nat) (G O : List Nat) (S : Sto) : hIx [("Moduli", F)] g (mO P G O) x S = F [mO P G O, x] S := by
  unfold hIx
  rw [mO_ins]
  simp only [lookup1]
theorem hCmp_mO (F : Fn) (g : D → D → Option D) (P : Nat) (G O : List Nat) (P' : Nat) (G' O' : List Nat) (S : Sto) : hCmp [("Moduli", F)] g (mO P G O) (mO P' G' O') S = F [mO P G O, mO P' G' O'] S := by
  unfold hCmp
  simp only [mO_ins, lookup1, if_true]
theorem hCmp_tup (F : Fn) (g : D → D → Option D) (P : Nat) (G O : List Nat) (xs : List D) (S : Sto) : hCmp [("Moduli", F)] g (mO P G O) (.tup xs) S = F [mO P G O, .tup xs] S := by
  unfold hCmp
  simp only [mO_ins, lookup1]
  rfl
theorem hCmp_int (F : Fn) (g : D → D → Option D) (P : Nat) (G O : List Nat) (i : Int) (S : Sto) : hCmp [("Moduli", F)] g (mO P G O) (.int i) S = F [mO P G O, .int i] S := by
  unfold hCmp
  simp only [mO_ins, lookup1]
  rfl
theorem pk_form (P : Nat) (G O : List Nat) : Pk 2 (formD P G O) := pk_tup fun d hd => by
  simp at hd
  rcases hd with rfl | rfl | rfl
  · exact pk_int 1 _
  · exact pk_tup fun d hd => by
      obtain ⟨x, _, rfl⟩ := List.mem_map.mp hd
      exact pk_int 0 _
  · exact pk_tup fun d hd => by
      obtain ⟨x, _, rfl⟩ := List.mem_map.mp hd
      exact pk_int 0 _
theorem map_iN_inj : ∀ {xs ys : List Nat}, xs.map iN = ys.map iN → xs = ys
  | [], [], _ => rfl
  | [], _ :: _, h => by simp at h
  | _ :: _, [], h => by simp at h
  | x :: xs, y :: ys, h => by
    rw [List.map_cons, List.map_cons, List.cons.injEq] at h
    have : (x : Int) = (y : Int) := by injection h.1
    rw [map_iN_inj h.2, show x = y by omega]
theorem formD_inj {P P' : Nat} {G O G' O' : List Nat} (h : formD P G O = formD P' G' O') : P = P' ∧ G = G' ∧ O = O' := by
  unfold formD at h
  simp only [D.tup.injEq, List.cons.injEq] at h
  obtain ⟨a, b, c, _⟩ := h
  have : (P : Int) = (P' : Int) := by injection a
  exact ⟨by omega, map_iN_inj b, map_iN_inj c⟩
section
variable {P : Nat} {G O : List Nat}
/-- the told one of a valid one -/
theorem Vm.told (v : Vm P G O) : Vm (lcmL (leasts G)) (late G) O := by
  have wl := Nat.le_of_dvd v.clo.pos v.clo.whole
  refine ⟨v.clo.late_clo, Nat.le_trans wl v.le, ?_, v.ord, fun o ho => ⟨(v.out o ho).1, (v.clo.gcd_late o).mpr (v.out o ho).2⟩, v.len⟩
  rw [v.clo.late_eq]
  exact Nat.le_trans (List.length_filter_le ..) v.few
theorem Vm.same (v : Vm P G O) : lcmL (leasts (late G)) = lcmL (leasts G) ∧ late (late G) = late G := by
  have e := v.clo.leasts_late
  refine ⟨by rw [e], ?_⟩
  show goods (lcmL (leasts (late G))) (leasts (late G)) = _
  rw [e]
  rfl
theorem Vm.has (v : Vm P G O) (n : Nat) : hasB (lcmL (leasts G)) (late G) O n = hasB P G O n := by
  unfold hasB
  congr 1
  rw [Bool.eq_iff_iff, decide_eq_true_eq, decide_eq_true_eq]
  exact v.clo.gcd_late n
end
def SpInit (F : Fn) : Prop := ∀ (P : Nat) (G O : List Nat) (S : Sto), Vm P G O → F [.ref S.length, iN P, .tup (G.map iN), .tup (O.map iN)] (S ++ [.ins "Moduli" []]) = .ok .non (S ++ [.ins "Moduli" [("own_form", formD (lcmL (leasts G)) (late G) O)]])
theorem init_ok {F1 F2 F3 F4 F5 F6 : Fn} (h1 : SpClosed F1) (h2 : SpModT F2) (h3 : SpGcdB 1000 F3) (h4 : SpModG F4) (h5 : SpReq F5) (h6 : SpToldG F6) : SpInit (dBody false 6 (B_Moduli___init__ F1 F2 F3 F4 F5 F6)) := by
  intro P G O S v
  obtain ⟨T, hT⟩ : ∃ T, T = S ++ [Ob.ins "Moduli" []] := ⟨_, rfl⟩
  rw [← hT]
  have gT : T[S.length]? = some (.ins "Moduli" []) := by rw [hT]; simp
  have e1 := h1 P G T v.clo v.le
  have e2 := h2 O T v.ord (fun o ho => (v.out o ho).1) (by have := v.len; omega)
  have e4 : F4 [iN P] T = .ok (.bl true) T := by
    rw [h4 (iN P) T rfl]
    show R.ok (D.bl (decide (0 < (P : Int)))) T = _
    rw [decide_eq_true (by have := v.clo.pos; omega)]
  have wl := Nat.le_of_dvd v.clo.pos v.clo.whole
  have lG := v.clo.len
  have lP := v.le
  have e6 := h6 (iN P) (.tup (G.map iN)) (.tup (O.map iN)) G O O T (.inr rfl) (.inr rfl) (fun g hg => ⟨v.clo.gpos hg, by have := Nat.le_of_dvd v.clo.pos (v.clo.dv g hg); omega⟩) (by omega) (by omega) v.clo.wpos (by have := v.len; omega) v.ord (fun a => ⟨fun h => ⟨h, (v.clo.gcd_late a).mpr (v.out a h).2⟩, fun h => h.1⟩) rfl
  have q1 := h5 "period" (-1) T
  have q2 := h5 "divisors" (-1) T
  have q3 := h5 "exceptions" (-1) T
  have e7 := compD_map (S := T) (b := gName' 5) (t := tTrue) (e := B_Moduli___init___E1 F1 F2 F3 F4 F5 F6) (r0 := [some (.ref S.length), some (iN P), some (.tup (G.map iN)), some (.tup (O.map iN)), none, none]) iN (fun _ => D.bl true) O (fun o ho => by
    have g1 := h3 o P T v.le
    have i1 := (in_nat (a := Nat.gcd o P) (.inr rfl : SeqN (.tup (G.map iN)) G)).1
    rw [decide_eq_true (v.out o ho).2] at i1
    simp_arith only [B_Moduli___init___E1, g1, i1]) (by have := v.len; omega)
  have al : (O.all fun _ => true) = true := List.all_eq_true.mpr fun _ _ => rfl
  have sf : ∀ (r : FL.Env) (d : D), kSF2 ["Moduli"] "own_form" r d (.ref S.length) T = .ok (.nx r) (S ++ [.ins "Moduli" [("own_form", d)]]) := fun r d => by
    unfold kSF2
    simp only [gT]
    rw [if_pos ⟨contains1 _, by simp⟩, hT]
    simp [putFD]
  show doneR false T (B_Moduli___init__ F1 F2 F3 F4 F5 F6 [some (.ref S.length), some (iN P), some (.tup (G.map iN)), some (.tup (O.map iN)), none, none] T) = _
  simp_arith only [B_Moduli___init__, e1, e2, e4, e6, e7, q1, q2, q3, all_of (fun _ => true) O, al, ev_sfld, ev_kSF1, sf]
  exact done_nx T _ _ (by rw [hT]; simp)
theorem make_ok {F : Fn} (h : SpInit F) {P : Nat} {G O : List Nat} (v : Vm P G O) {n m : Nat} {g : List D → List D → List D} {ds es : List D} {S : Sto} (hl : ds.length = n) (hm : es.length = m) (hg : g (.ref S.length :: ds) es = [.ref S.length, iN P, .tup (G.map iN), .tup (O.map iN)]) :
    kMk2 "Moduli" n m g F ds es S = .ok (mO (lcmL (leasts G)) (late G) O) S := by
  unfold kMk2
  rw [if_pos ⟨hl, hm⟩, hg, h P G O S v]
  unfold cutI
  simp only
  rw [if_pos ⟨by simp, kept_app S _⟩]
  have e : (S ++ [Ob.ins "Moduli" [("own_form", formD (lcmL (leasts G)) (late G) O)]])[S.length]? = some (Ob.ins "Moduli" [("own_form", formD (lcmL (leasts G)) (late G) O)]) := by simp
  rw [e]
  simp only
  have lt : D.ltAll S.length ([("own_form", formD (lcmL (leasts G)) (late G) O)].map (·.2) : List D) = true := by
    show D.ltAll S.length [formD (lcmL (leasts G)) (late G) O] = true
    exact nbs_lt S.length [_] (by unfold nbs nbs; rw [(pk_form _ _ _).1]; rfl)
  rw [if_pos ⟨trivial, lt⟩]
  simp
  rfl
/-! the methods -/
def SpForm (F : Fn) : Prop := ∀ (P : Nat) (G O : List Nat) (S : Sto), F [mO P G O] S = .ok (formD P G O) S
def SpPart (F : Fn) (f : Nat → List Nat → List Nat → D) : Prop := ∀ (P : Nat) (G O : List Nat) (S : Sto), F [mO P G O] S = .ok (f P G O) S
theorem form_ok : SpForm (dBody false 1 B_Moduli_form) := by
  intro P G O S
  show doneR false S (B_Moduli_form [some (mO P G O)] S) = _
  simp_arith only [B_Moduli_form, ev_fld, kFld_mO, done_eq]
theorem period_ok : SpPart (dBody false 1 B_Moduli_period) fun P _ _ => iN P := by
  intro P G O S
  show doneR false S (B_Moduli_period [some (mO P G O)] S) = _
  simp_arith only [B_Moduli_period, ev_fld, kFld_mO, formD, ixD_tup, atI_0, done_eq]
theorem divisors_ok : SpPart (dBody false 1 B_Moduli_divisors) fun _ G _ => .tup (G.map iN) := by
  intro P G O S
  show doneR false S (B_Moduli_divisors [some (mO P G O)] S) = _
  simp_arith only [B_Moduli_divisors, ev_fld, kFld_mO, formD, ixD_tup, atI_1, done_eq]
theorem exceptions_ok : SpPart (dBody false 1 B_Moduli_exceptions) fun _ _ O => .tup (O.map iN) := by
  intro P G O S
  show doneR false S (B_Moduli_exceptions [some (mO P G O)] S) = _
  simp_arith only [B_Moduli_exceptions, ev_fld, kFld_mO, formD, ixD_tup, atI_2, done_eq]
def SpLeast (F : Fn) : Prop := ∀ (P : Nat) (G O : List Nat) (S : Sto), Vm P G O → (G = [] → F [mO P G O] S = .ok .non S) ∧
  (G ≠ [] → (∃ H, 0 < cnt (hasB P G O) H) → ∃ x, F [mO P G O] S = .ok (iN x) S ∧ 0 < cnt (hasB P G O) x ∧ cnt (hasB P G O) (x - 1) ≤ 0)
theorem least_ok {F1 : Fn} (h1 : SpNth F1) : SpLeast (dBody false 1 (B_Moduli_least F1)) := by
  intro P G O S v
  constructor
  · intro e
    subst e
    show doneR false S (B_Moduli_least F1 [some (mO P [] O)] S) = _
    simp_arith only [B_Moduli_least, ev_fld, kFld_mO, formD, ixD_tup, atI_1, eqD_int, show (((0 : Nat) : Int) == 0) = true from rfl, done_eq]
  · intro ne hx
    obtain ⟨x, e, a, b⟩ := h1 P G O 0 S v hx
    refine ⟨x, ?_, a, b⟩
    have z : ((((G.map iN).length : Nat) : Int) == 0) = false := by
      rw [beq_eq_false_iff_ne, List.length_map]
      have := List.length_pos_iff.mpr ne
      omega
    show doneR false S (B_Moduli_least F1 [some (mO P G O)] S) = _
    have e : F1 [.tup [iN P, .tup (G.map iN), .tup (O.map iN)], .int 0] S = _ := e
    simp_arith only [B_Moduli_least, ev_fld, kFld_mO, formD, ixD_tup, atI_1, eqD_int, z, e, done_eq]
def SpBitsM (F : Fn) : Prop := ∀ (P : Nat) (G O : List Nat) (S : Sto), Vm P G O → ∃ v r, P = 2 ^ v * r ∧ r % 2 = 1 ∧ F [mO P G O] S = .ok (optN ((List.range (O.length + 1 + v + 1)).find? fun e => hasB P G O (2 ^ e))) S
theorem bitsM_ok {F1 : Fn} (h1 : SpBits F1) : SpBitsM (dBody false 1 (B_Moduli_bits F1)) := by
  intro P G O S v
  obtain ⟨w, r, a, b, e⟩ := h1 P G O S v
  refine ⟨w, r, a, b, ?_⟩
  show doneR false S (B_Moduli_bits F1 [some (mO P G O)] S) = _
  simp_arith only [B_Moduli_bits, ev_fld, kFld_mO]
  unfold formD at e ⊢
  simp_arith only [e, done_eq]
/-- the greatest, 0 without any -/
def topN (O : List Nat) : Nat := O.getLast?.getD 0
def SpAllFrom (F : Fn) : Prop := ∀ (P : Nat) (G O : List Nat) (S : Sto), F [mO P G O] S = .ok (if G = [1] then iN (topN O + 1) else .non) S
theorem all_from_ok : SpAllFrom (dBody false 4 B_Moduli_all_from) := by
  intro P G O S
  show doneR false S (B_Moduli_all_from [some (mO P G O), none, none, none] S) = _
  have fw : few [D.int 1] = some [D.int 1] := few_ok (by simp)
  have ne : neD (.tup (G.map iN)) (.tup [.int 1]) = some (.bl (!decide (G = [1]))) := by
    have := neD_pn (pn_nats G).1 (pn_nats [1]).1
    have q : D.tup ([1].map iN) = .tup [.int 1] := rfl
    rw [q] at this
    rw [this]
    by_cases h : G = [1]
    · subst h
      rw [decide_eq_true rfl]
      exact congrArg (fun b => some (D.bl (!b))) (@decide_eq_true _ (Classical.propDecidable _) rfl)
    · rw [decide_eq_false h]
      exact congrArg (fun b => some (D.bl (!b))) (@decide_eq_false _ (Classical.propDecidable _) fun z => h (map_iN_inj (ys := [1]) (by injection z)))
  by_cases h : G = [1]
  · rw [if_pos h]
    rw [decide_eq_true h] at ne
    have tt : ∀ xs : List D, truD (.tup xs) = some (!xs.isEmpty) := fun _ => rfl
    rcases List.eq_nil_or_concat O with rfl | ⟨O', z, rfl⟩
    · simp_arith only [B_Moduli_all_from, ev_fld, kFld_mO, formD, fw, ne, tt, List.map_nil, List.isEmpty_nil, done_eq]
      rfl
    · have lz : ((O'.concat z).map iN).getLast? = some (iN z) := by simp
      have em : ((O'.concat z).map iN).isEmpty = false := by simp
      have tp : topN (O'.concat z) = z := by unfold topN; simp
      simp_arith only [B_Moduli_all_from, ev_fld, kFld_mO, formD, fw, ne, tt, em, ixD_tup, atI_last lz, done_eq, tp]
      rfl
  · rw [if_neg h]
    rw [decide_eq_false h] at ne
    simp_arith only [B_Moduli_all_from, ev_fld, kFld_mO, formD, fw, ne, done_eq]
def SpCont (F : Fn) : Prop := ∀ (P : Nat) (G O : List Nat) (d : D) (S : Sto), P ≤ 1000 → nr d = true → (∀ n : Nat, 0 < n → d = iN n → F [mO P G O, d] S = .ok (.bl (hasB P G O n)) S) ∧ (isMod d = false → F [mO P G O, d] S = .ok (.bl false) S)
theorem contains_ok {F1 F2 : Fn} (h1 : SpHas F1) (h2 : SpModG F2) : SpCont (dBody false 2 (B_Moduli___contains__ F1 F2)) := by
  intro P G O d S hP nd
  have e2 := h2 d S nd
  constructor
  · intro n hn e
    subst e
    have e2 : F2 [iN n] S = .ok (.bl true) S := by
      rw [e2]
      show R.ok (D.bl (decide (0 < (n : Int)))) S = _
      rw [decide_eq_true (by omega)]
    have e1 := h1 P G O n S hP
    show doneR false S (B_Moduli___contains__ F1 F2 [some (mO P G O), some (iN n)] S) = _
    simp_arith only [B_Moduli___contains__, ev_fld, kFld_mO, e2]
    unfold formD at e1 ⊢
    simp_arith only [e1, done_eq]
  · intro hm
    rw [hm] at e2
    show doneR false S (B_Moduli___contains__ F1 F2 [some (mO P G O), some d] S) = _
    simp_arith only [B_Moduli___contains__, e2, done_eq]
def SpItem (F : Fn) : Prop := ∀ (P : Nat) (G O : List Nat) (k : Nat) (S : Sto), Vm P G O → G ≠ [] → (∃ H, k < cnt (hasB P G O) H) → ∃ x, F [mO P G O, iN k] S = .ok (iN x) S ∧ k < cnt (hasB P G O) x ∧ cnt (hasB P G O) (x - 1) ≤ k
theorem getitem_ok {F1 F2 F3 : Fn} (h1 : SpNumG F1) (h2 : SpNth F2) (h3 : SpReq F3) : SpItem (dBody false 2 (B_Moduli___getitem__ F1 F2 F3)) := by
  intro P G O k S v ne hx
  obtain ⟨x, e, a, b⟩ := h2 P G O k S v hx
  refine ⟨x, ?_, a, b⟩
  have e1 : F1 [iN k] S = .ok (.bl true) S := by
    rw [h1 (iN k) S rfl]
    show R.ok (D.bl (decide (0 ≤ (k : Int)))) S = _
    rw [decide_eq_true (by omega)]
  have z : decide ((0 : Int) < (((G.map iN).length : Nat) : Int)) = true := by
    rw [decide_eq_true_eq, List.length_map]
    have := List.length_pos_iff.mpr ne
    omega
  have e3 := h3 "k" (-1) S
  show doneR false S (B_Moduli___getitem__ F1 F2 F3 [some (mO P G O), some (iN k)] S) = _
  have e : F2 [.tup [iN P, .tup (G.map iN), .tup (O.map iN)], iN k] S = _ := e
  simp_arith only [B_Moduli___getitem__, ev_fld, kFld_mO, formD, ixD_tup, atI_1, e1, z, e3, e, done_eq]
def SpEqM (F : Fn) : Prop := (∀ (P P' : Nat) (G O G' O' : List Nat) (S : Sto), F [mO P G O, mO P' G' O'] S = .ok (.bl (decide (P = P' ∧ G = G' ∧ O = O'))) S) ∧
  (∀ (P : Nat) (G O : List Nat) (xs : List D) (S : Sto), F [mO P G O, .tup xs] S = .ok (.bl false) S) ∧ (∀ (P : Nat) (G O : List Nat) (i : Int) (S : Sto), F [mO P G O, .int i] S = .ok (.bl false) S)
theorem eqM_ok : SpEqM (dBody false 2 B_Moduli___eq__) := by
  refine ⟨fun P P' G O G' O' S => ?_, fun P G O xs S => ?_, fun P G O i S => ?_⟩
  · show doneR false S (B_Moduli___eq__ [some (mO P G O), some (mO P' G' O')] S) = _
    have q : eqD (formD P G O) (formD P' G' O') = some (.bl (decide (P = P' ∧ G = G' ∧ O = O'))) := by
      rw [eqD_pn ((pk_form P G O).pn (by omega)) ((pk_form P' G' O').pn (by omega))]
      by_cases h : P = P' ∧ G = G' ∧ O = O'
      · rw [decide_eq_true h]
        exact congrArg (fun b => some (D.bl b)) (@decide_eq_true _ (Classical.propDecidable _) (by obtain ⟨rfl, rfl, rfl⟩ := h; rfl))
      · rw [decide_eq_false h]
        exact congrArg (fun b => some (D.bl b)) (@decide_eq_false _ (Classical.propDecidable _) fun z => h (formD_inj z))
    have vf : ∀ P G O, vw S (formD P G O) = formD P G O := fun _ _ _ => rfl
    simp_arith only [B_Moduli___eq__, ev_isO, kIsO_mO, ev_fld, kFld_mO, vf, q, done_eq]
  · show doneR false S (B_Moduli___eq__ [some (mO P G O), some (.tup xs)] S) = _
    have q : kIsO [("Moduli", true)] (.tup xs) S = .ok (.bl false) S := rfl
    simp_arith only [B_Moduli___eq__, ev_isO, q, done_eq]
  · show doneR false S (B_Moduli___eq__ [some (mO P G O), some (.int i)] S) = _
    have q : kIsO [("Moduli", true)] (.int i) S = .ok (.bl false) S := rfl
    simp_arith only [B_Moduli___eq__, ev_isO, q, done_eq]
end SS
end
section
set_option Elab.async false
set_option linter.all false
set_option maxRecDepth 100000
set_option autoImplicit false
set_option maxHeartbeats 4000000
namespace SS
open PySem PySem.Spec PyProof.Rows L2 FL
local macro_rules
  | `(tactic| simp_arith only [$xs,*]) => `(tactic| simp (config := { implicitDefEqProofs := false }) only [tn_ok, oR_some, nx_ok, ev_var, ev_c, ev_bin, ev_kBin1, ev_kBin2, ev_un, ev_kUn, ev_asB, ev_kB, ev_asT, ev_kT, ev_tAnd2, ev_kAndT, ev_kAndF, ev_tOr2, ev_kOrT, ev_kOrF, ev_not, ev_kNot, ev_eAnd2, ev_kAndE, ev_kAndET, ev_kAndEF, ev_eOr2, ev_kOrE, ev_kOrET, ev_kOrEF, ev_eNot1, ev_kNotE, ev_kNotE2, ev_if, ev_kIfT, ev_kIfF, ev_aNil, ev_aCons, ev_kCons, ev_kCons2, ev_aStar, ev_kStar, ev_kStar2, ev_kStar3, ev_eTup, ev_kTup, ev_kTup2, ev_eLst, ev_kLst, ev_kLst2, ev_eNewL, ev_kNewL, ev_kNewL2, ev_newD, ev_callP, ev_kCallP, ev_call, ev_kCall, ev_kCall2, ev_oNone, ev_oSome, ev_kO, ev_kO2, ev_sl, ev_kSl, ev_kSl2, ev_kSl3, ev_sl3, ev_kT1, ev_kT2, ev_kT3, ev_kT4, ev_listRg, ev_kLR, ev_kLR2, ev_forM, ev_forMr, ev_forMl, ev_forMt, ev_forR, ev_meth, ev_kM, ev_kM2, ev_kM3, ev_meth0, ev_kM0, ev_chain, ev_kCh, ev_kCh2, ev_kCh3T, ev_kCh3F, ev_kCh4, ev_kLs, ev_kComp, ev_comp, ev_kRef, ev_compM, ev_kComp2, ev_comp2, ev_iSeq, ev_kIt, ev_iRange, ev_kRg, ev_enT, ev_enL, ev_iEnum, items_lst, items_tup, items_str, ev_true, ev_ret, ev_kRet, ev_expr, ev_kEx, ev_asg, ev_kAsg, ev_kNx, ev_seq, ev_kSeqN, ev_kSeqR, ev_kSeqB, ev_kSeqC, ev_ifS, ev_kIfST, ev_kIfSF, ev_for, ev_kFor, ev_next, ev_retN, ev_break, ev_cont, ev_par, ev_kPar, ev_par3, ev_kPar3, ev_gName, ev_gTup, ev_gsNil, ev_gsCons, ev_kGs, ev_gSub, ev_kSub, ev_kSub2, ev_kSub3, ev_kSub4, ev_mut, ev_kMu, ev_kMu2, ev_kMu3, ev_kMu4, ev_catM, ev_kCat, ev_kCat2, ev_catR, vw_non, vw_bl, vw_int, vw_str, vw_lst, vw_tup, vw_dct, vw_ref, vwO_lst, vwO_dct, tru_bl, tru_int, tru_lst, tru_tup, tru_non, add_int, add_lst, add_tup, add_str, sub_int, neg_int, gt_int, ge_int, lt_int, le_int, len_lst, len_tup, len_dct, len_str, int_int, tuple_lst, tuple_tup, list_lst, list_tup, sl_lst, sl_tup, is_non, isnt_non, non_bl, non_int, non_str, non_lst, non_tup, non_non, int_int?, ref_ref?, alt_tup, alt_lst, isi_int_non, isi_int_bl, isi_int_int, isi_int_str, isi_int_lst, isi_int_tup, isi_bool_non, isi_bool_bl, isi_bool_int, isi_bool_str, isi_bool_lst, isi_bool_tup, isi_str_non, isi_str_bl, isi_str_int, isi_str_str, isi_str_lst, isi_str_tup, isi_tuple_non, isi_tuple_bl, isi_tuple_int, isi_tuple_str, isi_tuple_lst, isi_tuple_tup, isi_list_non, isi_list_bl, isi_list_int, isi_list_str, isi_list_lst, isi_list_tup, isi_dict_non, isi_dict_bl, isi_dict_int, isi_dict_str, isi_dict_lst, isi_dict_tup, tyIn_lst2, tyD_lst, tyIn_tup2, tyD_tup, tyIn_str, tyD_str, tyIn_dct, tyD_dct, ev_cStep, ev_kC, ev_kC2T, ev_kC2F, ev_kSome, ev_cStep2, ev_kD, ev_kD2T, ev_kD2F, ev_kD3, ev_lStep, ev_kL, List.getElem?_cons_zero, List.getElem?_cons_succ, Option.join_some, Option.bind_some, Option.map_some, wipeE, List.set_cons_zero, List.set_cons_succ, List.length_cons, List.length_nil, List.map_cons, List.map_nil, gAll, gDef, List.cons_append, List.nil_append, if_true, if_false, Bool.not_true, Bool.not_false, Nat.zero_add, Nat.reduceAdd, Nat.reduceLeDiff, and_true, and_self, true_and, reduceIte, Bool.false_eq_true, $xs,*])
/-! ## the feed: a tape that is a dict -/
def sprKV (ns : List Int) (a b c : Int) : List (Key × D) := [(.inr "cells", .lst (ns.map D.int)), (.inr "place", .int a), (.inr "rest", .int b), (.inr "count", .int c)]
def sprOb (ns : List Int) (a b c : Int) : Ob := .dct (sprKV ns a b c)
/-- a feed with at most n draws behind it -/
def GTp (S : Sto) (i n : Nat) : Prop := ∃ ns a b c, S[i]? = some (sprOb ns a b c) ∧ 0 ≤ a ∧ 0 ≤ c ∧ c ≤ (n : Int)
/-- only the feed has changed -/
def GCh (S S' : Sto) (i n : Nat) : Prop := (∃ o, S' = S.set i o) ∧ GTp S' i n
theorem GCh.trans {S S1 S2 : Sto} {i n m : Nat} (h : GCh S S1 i n) (k : GCh S1 S2 i m) : GCh S S2 i m := by
  obtain ⟨⟨o, rfl⟩, _⟩ := h
  obtain ⟨⟨o', e⟩, t⟩ := k
  exact ⟨⟨o', by rw [e, List.set_set]⟩, t⟩
theorem GCh.len {S S' : Sto} {i n : Nat} (h : GCh S S' i n) : S'.length = S.length := by
  obtain ⟨⟨o, rfl⟩, _⟩ := h
  simp
theorem GCh.tp {S S' : Sto} {i n : Nat} (h : GCh S S' i n) : GTp S' i n := h.2
theorem GCh.refl {S : Sto} {i n : Nat} (h : GTp S i n) : GCh S S i n := by
  obtain ⟨ns, a, b, c, e, _⟩ := h
  exact ⟨⟨sprOb ns a b c, (set_same e).symm⟩, ⟨ns, a, b, c, e, by assumption⟩⟩
theorem GTp.mono {S : Sto} {i n m : Nat} (h : GTp S i n) (hm : n ≤ m) : GTp S i m := by
  obtain ⟨ns, a, b, c, e, h1, h2, h3⟩ := h
  exact ⟨ns, a, b, c, e, h1, h2, by omega⟩
theorem GCh.mono {S S' : Sto} {i n m : Nat} (h : GCh S S' i n) (hm : n ≤ m) : GCh S S' i m := ⟨h.1, h.2.mono hm⟩
theorem GCh.other {S S' : Sto} {i n j : Nat} (h : GCh S S' i n) (hj : j ≠ i) : S'[j]? = S[j]? := by
  obtain ⟨⟨o, rfl⟩, _⟩ := h
  rw [List.getElem?_set_ne (Ne.symm hj)]
theorem GTp.lt {S : Sto} {i n : Nat} (h : GTp S i n) : i < S.length := by
  obtain ⟨_, _, _, _, e, _⟩ := h
  exact (List.getElem?_eq_some_iff.mp e).1
theorem j_cells : ((.inr "cells" : Key) = .inr "place") = False ∧ ((.inr "cells" : Key) = .inr "rest") = False ∧ ((.inr "cells" : Key) = .inr "count") = False ∧ ((.inr "place" : Key) = .inr "rest") = False ∧ ((.inr "place" : Key) = .inr "count") = False ∧ ((.inr "rest" : Key) = .inr "count") = False := by
  refine ⟨eq_false ?_, eq_false ?_, eq_false ?_, eq_false ?_, eq_false ?_, eq_false ?_⟩ <;> decide +kernel
theorem j_cells2 : ((.inr "place" : Key) = .inr "cells") = False ∧ ((.inr "rest" : Key) = .inr "cells") = False ∧ ((.inr "count" : Key) = .inr "cells") = False ∧ ((.inr "rest" : Key) = .inr "place") = False ∧ ((.inr "count" : Key) = .inr "place") = False ∧ ((.inr "count" : Key) = .inr "rest") = False := by
  refine ⟨eq_false ?_, eq_false ?_, eq_false ?_, eq_false ?_, eq_false ?_, eq_false ?_⟩ <;> decide +kernel
section
variable (ns : List Int) (a b c d : Int)
theorem gk_cells : lookK (sprKV ns a b c) (.inr "cells") = some (.lst (ns.map D.int)) := by simp [lookK, sprKV]
theorem gk_at : lookK (sprKV ns a b c) (.inr "place") = some (.int a) := by simp only [lookK, sprKV, List.find?_cons, j_cells.1, decide_false, decide_true, Option.map_some]
theorem gk_left : lookK (sprKV ns a b c) (.inr "rest") = some (.int b) := by simp only [lookK, sprKV, List.find?_cons, j_cells.2.1, j_cells.2.2.2.1, decide_false, decide_true, Option.map_some]
theorem gk_count : lookK (sprKV ns a b c) (.inr "count") = some (.int c) := by simp only [lookK, sprKV, List.find?_cons, j_cells.2.2.1, j_cells.2.2.2.2.1, j_cells.2.2.2.2.2, decide_false, decide_true, Option.map_some]
theorem gp_at : putD (sprKV ns a b c) (.inr "place") (.int d) = sprKV ns d b c := by
  simp only [putD, sprKV, List.any_cons, List.map_cons, List.map_nil, j_cells.1, j_cells2.2.2.2.1, j_cells2.2.2.2.2.1, decide_false, decide_true, Bool.false_or, Bool.true_or, if_true, if_false]
theorem gp_left : putD (sprKV ns a b c) (.inr "rest") (.int d) = sprKV ns a d c := by
  simp only [putD, sprKV, List.any_cons, List.map_cons, List.map_nil, j_cells.2.1, j_cells.2.2.2.1, j_cells2.2.2.2.2.2, decide_false, decide_true, Bool.false_or, Bool.true_or, if_true, if_false]
theorem gp_count : putD (sprKV ns a b c) (.inr "count") (.int d) = sprKV ns a b d := by
  simp only [putD, sprKV, List.any_cons, List.map_cons, List.map_nil, j_cells.2.2.1, j_cells.2.2.2.2.1, j_cells.2.2.2.2.2, decide_false, decide_true, Bool.false_or, Bool.true_or, if_true, if_false]
end
noncomputable def dipT : FSx := (sSeq (sAsg (eBin modD (eCallP intD (aCons (eBin powD (eBin addD (eBin addD (eBin modD (eCallP intD (aCons (eVar 5) aNil)) (eC (.int 2147483353))) (eBin mulD (eC (.int 7019)) (eVar 2))) (eC (.int 131))) (eC (.int 3))) aNil)) (eC (.int 2147483647))) (gName' 6)) (sSeq (sAsg (eBin modD (eCallP intD (aCons (eBin powD (eBin addD (eVar 6) (eBin mulD (eC (.int 50033)) (eVar 2))) (eC (.int 5))) aNil)) (eC (.int 2147483587))) (gName' 6)) (sRet (eBin modD (eCallP intD (aCons (eBin fdivD (eVar 6) (eC (.int 128))) aNil)) (eVar 1)))))
theorem dipT_eq : B__law_dip  = (sSeq (sAsg (eBin addD (eBin ixD (eVar 0) (eC (.str "count"))) (eC (.int 1))) (gName' 2)) (sSeq (sAsg (eVar 2) (gSub' (eVar 0) (eC (.str "count")))) (sSeq (sIf (asB (eBin gtD (eBin ixD (eVar 0) (eC (.str "rest"))) (eC (.int 0)))) (sSeq (sAsg (eBin modD (eCallP intD (aCons (eBin ixD (eVar 0) (eC (.str "rest"))) aNil)) (eVar 1)) (gName' 3)) (sSeq (sAsg (eBin fdivD (eBin ixD (eVar 0) (eC (.str "rest"))) (eVar 1)) (gSub' (eVar 0) (eC (.str "rest")))) (sRet (eVar 3)))) sNext) (sSeq (sAsg (eBin ixD (eVar 0) (eC (.str "place"))) (gName' 4)) (sSeq (sAsg (eBin addD (eVar 4) (eC (.int 1))) (gSub' (eVar 0) (eC (.str "place")))) (sSeq (sAsg (eC (.int 108831)) (gName' 5)) (sSeq (sIf (asB (eBin neD (eBin ixD (eVar 0) (eC (.str "cells"))) (eLst aNil))) (sAsg (eBin ixD (eBin ixD (eVar 0) (eC (.str "cells"))) (eBin modD (eCallP intD (aCons (eVar 4) aNil)) (eCallP lenD (aCons (eBin ixD (eVar 0) (eC (.str "cells"))) aNil)))) (gName' 5)) sNext) (sSeq (sIf (tAnd2 (asB (eBin geD (eVar 5) (eBin powD (eC (.int 10)) (eC (.int 18))))) (asB (eBin ltD (eVar 4) (eCallP lenD (aCons (eBin ixD (eVar 0) (eC (.str "cells"))) aNil))))) (sSeq (sAsg (eBin fdivD (eVar 5) (eVar 1)) (gSub' (eVar 0) (eC (.str "rest")))) (sRet (eBin modD (eCallP intD (aCons (eVar 5) aNil)) (eVar 1)))) sNext) (dipT ))))))))) := rfl
section
variable {S : Sto} {i z : Nat} {ns : List Int} {a b c : Int}
theorem set_spr {kv kv' : List (Key × D)} {x : Str} {d : D} (hi : i < S.length) (hl : kv.length < 1000000) (h : putD kv (.inr x) d = kv') : setAt i (.str x) d (S.set i (.dct kv)) = .ok () (S.set i (.dct kv')) := by
  have q := setAt_dct (S := S.set i (.dct kv)) (n := i) (x := x) (d := d) (List.getElem?_set_self hi) hl
  rw [List.set_set, h] at q
  exact q
theorem small_ofN {i : Int} (h1 : 0 ≤ i) (h2 : i < 1000000000000) : FL.small64 i = true := by
  unfold FL.small64
  rw [decide_eq_true (by omega), decide_eq_true (by omega)]
  rfl
theorem dip_rest (hi : i < S.length) (hz : 0 < z) (hz2 : z ≤ 1000) (hb : 0 < b) : ∃ v : Nat, v < z ∧ B__law_dip [some (.ref i), some (.int (z : Nat)), none, none, none, none, none] (S.set i (sprOb ns a b c)) = .ok (.rt (.int (v : Nat))) (S.set i (sprOb ns a (b / (z : Int)) (c + 1))) := by
  obtain ⟨v, hv, ev⟩ := mod_nat (x := b) hz
  refine ⟨v, hv, ?_⟩
  have g : ∀ o : Ob, (S.set i o)[i]? = some o := fun o => List.getElem?_set_self hi
  have zz : (0 : Int) < (z : Int) := by omega
  have zb : (z : Int) < 1073741824 := by omega
  have s3 : ∀ (a b c d : Int), setAt i (.str "count") (.int d) (S.set i (.dct (sprKV ns a b c))) = .ok () (S.set i (.dct (sprKV ns a b d))) := fun a b c d => set_spr hi (by simp [sprKV]) (gp_count ..)
  have s2 : ∀ (a b c d : Int), setAt i (.str "rest") (.int d) (S.set i (.dct (sprKV ns a b c))) = .ok () (S.set i (.dct (sprKV ns a d c))) := fun a b c d => set_spr hi (by simp [sprKV]) (gp_left ..)
  simp_arith only [B__law_dip, sprOb, g, look_ix, gk_count, gk_left, s3, s2, decide_eq_true hb, modD_int zz, fdivD_int zz zb, ev]
theorem dip_tail (hi : i < S.length) (hz : 0 < z) (hc : 0 ≤ c) (hc2 : c ≤ 200000) (cl : Int) (x3 x4 x6 : Option D) (o : Ob) : ∃ v : Nat, v < z ∧ dipT [some (.ref i), some (.int (z : Nat)), some (.int c), x3, x4, some (.int cl), x6] (S.set i o) = .ok (.rt (.int (v : Nat))) (S.set i o) := by
  have zz : (0 : Int) < (z : Int) := by omega
  have sc : FL.small64 c = true := small_ofN hc (by omega)
  have r0 := Int.emod_nonneg cl (show (2147483353 : Int) ≠ 0 by omega)
  have r1 := Int.emod_lt_of_pos cl (show (0 : Int) < 2147483353 by omega)
  have p1 := powD_small (i := cl % 2147483353 + 7019 * c + 131) (j := 3) (by omega) (by omega) (by omega)
  have t0 := Int.emod_nonneg ((cl % 2147483353 + 7019 * c + 131) ^ (3 : Int).toNat) (show (2147483647 : Int) ≠ 0 by omega)
  have t1 := Int.emod_lt_of_pos ((cl % 2147483353 + 7019 * c + 131) ^ (3 : Int).toNat) (show (0 : Int) < 2147483647 by omega)
  generalize ((cl % 2147483353 + 7019 * c + 131) ^ (3 : Int).toNat) = w1 at p1 t0 t1
  have p2 := powD_small (i := w1 % 2147483647 + 50033 * c) (j := 5) (by omega) (by omega) (by omega)
  generalize ((w1 % 2147483647 + 50033 * c) ^ (5 : Int).toNat) = w2 at p2
  obtain ⟨v, hv, ev⟩ := mod_nat (x := w2 % 2147483587 / 128) hz
  refine ⟨v, hv, ?_⟩
  simp_arith only [dipT, mulD_small (.inr sc : FL.small64 7019 = true ∨ FL.small64 c = true), mulD_small (.inr sc : FL.small64 50033 = true ∨ FL.small64 c = true), modD_int (show (0 : Int) < 2147483353 by omega), modD_int (show (0 : Int) < 2147483647 by omega), modD_int (show (0 : Int) < 2147483587 by omega), p1, p2, fdivD_int (show (0 : Int) < 128 by omega) (show (128 : Int) < 1073741824 by omega), modD_int zz, ev]
theorem dip_cell (hi : i < S.length) (hz : 0 < z) (hz2 : z ≤ 1000) (ha : 0 ≤ a) (hc : 0 ≤ c) (hc2 : c ≤ 100000) (hb : ¬ 0 < b) : ∃ (v : Nat) (b' : Int), v < z ∧ B__law_dip [some (.ref i), some (.int (z : Nat)), none, none, none, none, none] (S.set i (sprOb ns a b c)) = .ok (.rt (.int (v : Nat))) (S.set i (sprOb ns (a + 1) b' (c + 1))) := by
  have g : ∀ o : Ob, (S.set i o)[i]? = some o := fun o => List.getElem?_set_self hi
  have zz : (0 : Int) < (z : Int) := by omega
  have zb : (z : Int) < 1073741824 := by omega
  have s3 : ∀ (a b c d : Int), setAt i (.str "count") (.int d) (S.set i (.dct (sprKV ns a b c))) = .ok () (S.set i (.dct (sprKV ns a b d))) := fun a b c d => set_spr hi (by simp [sprKV]) (gp_count ..)
  have s2 : ∀ (a b c d : Int), setAt i (.str "rest") (.int d) (S.set i (.dct (sprKV ns a b c))) = .ok () (S.set i (.dct (sprKV ns a d c))) := fun a b c d => set_spr hi (by simp [sprKV]) (gp_left ..)
  have s1 : ∀ (a b c d : Int), setAt i (.str "place") (.int d) (S.set i (.dct (sprKV ns a b c))) = .ok () (S.set i (.dct (sprKV ns d b c))) := fun a b c d => set_spr hi (by simp [sprKV]) (gp_at ..)
  have nn := ne_nilL (pn_ints ns)
  have tail := fun cl x3 x4 x6 => dip_tail (S := S) (c := c + 1) hi hz (by omega) (by omega) cl x3 x4 x6 (.dct (sprKV ns (a + 1) b (c + 1)))
  simp only [sprOb] at tail ⊢
  rw [dipT_eq]
  by_cases hn : ns = []
  · obtain ⟨v, hv, e⟩ := tail 108831 none (some (.int a)) none
    refine ⟨v, b, hv, ?_⟩
    have en : (ns.map D.int).isEmpty = true := by rw [hn]; rfl
    rw [en] at nn
    simp_arith only [g, look_ix, gk_count, gk_left, gk_at, gk_cells, nn, few0, s3, s1, decide_eq_false hb, pow18, show decide ((1000000000000000000 : Int) ≤ 108831) = false from decide_eq_false (by omega), e]
  · have hl0 : 0 < (ns.map D.int).length := by rw [List.length_map]; exact List.length_pos_iff.mpr hn
    have hl : (0 : Int) < ((ns.map D.int).length : Int) := by omega
    obtain ⟨k, hk, ek⟩ := mod_nat (x := a) (z := (ns.map D.int).length) hl0
    have hk' : k < ns.length := by simpa using hk
    have gk : (ns.map D.int)[k]? = some (.int (ns[k])) := by rw [List.getElem?_map, List.getElem?_eq_getElem hk']; rfl
    generalize ns[k] = cl at gk
    have ne : (ns.map D.int).isEmpty = false := by cases ns with
      | nil => exact absurd rfl hn
      | cons x xs => rfl
    rw [ne] at nn
    by_cases h1 : 1000000000000000000 ≤ cl
    · by_cases h2 : a < ((ns.map D.int).length : Int)
      · obtain ⟨v, hv, ev⟩ := mod_nat (x := cl) hz
        refine ⟨v, cl / (z : Int), hv, ?_⟩
        simp_arith only [g, look_ix, gk_count, gk_left, gk_at, gk_cells, nn, few0, ixD_lst, s3, s2, s1, decide_eq_false hb, pow18, modD_int hl, ek, atI_nat gk, decide_eq_true h1, decide_eq_true h2, fdivD_int zz zb, modD_int zz, ev]
      · obtain ⟨v, hv, e⟩ := tail cl none (some (.int a)) none
        refine ⟨v, b, hv, ?_⟩
        simp_arith only [g, look_ix, gk_count, gk_left, gk_at, gk_cells, nn, few0, ixD_lst, s3, s1, decide_eq_false hb, pow18, modD_int hl, ek, atI_nat gk, decide_eq_true h1, decide_eq_false h2, e]
    · obtain ⟨v, hv, e⟩ := tail cl none (some (.int a)) none
      refine ⟨v, b, hv, ?_⟩
      simp_arith only [g, look_ix, gk_count, gk_left, gk_at, gk_cells, nn, few0, ixD_lst, s3, s1, decide_eq_false hb, pow18, modD_int hl, ek, atI_nat gk, decide_eq_false h1, e]
end
def SpDip (F : Fn) : Prop := ∀ (S : Sto) (i n z : Nat), GTp S i n → n ≤ 100000 → 0 < z → z ≤ 1000 → ∃ (v : Nat) (S' : Sto), v < z ∧ F [.ref i, iN z] S = .ok (iN v) S' ∧ GCh S S' i (n + 1)
theorem law_dip_ok : SpDip (dBody false 7 B__law_dip) := by
  intro S i n z ht hn hz hz2
  obtain ⟨ns, a, b, c, e, ha, hc, hcn⟩ := ht
  have hi : i < S.length := (List.getElem?_eq_some_iff.mp e).1
  have g : ∀ o : Ob, (S.set i o)[i]? = some o := fun o => List.getElem?_set_self hi
  show ∃ (v : Nat) (S' : Sto), v < z ∧ doneR false S (B__law_dip [some (.ref i), some (.int (z : Nat)), none, none, none, none, none] S) = .ok (.int (v : Nat)) S' ∧ GCh S S' i (n + 1)
  by_cases hb : 0 < b
  · obtain ⟨v, hv, q⟩ := dip_rest (S := S) (ns := ns) (a := a) (b := b) (c := c) hi hz hz2 hb
    rw [set_same e] at q
    rw [q]
    exact ⟨v, _, hv, done_rt S _ _ (by simp), ⟨_, rfl⟩, ns, a, _, c + 1, g _, ha, by omega, by omega⟩
  · obtain ⟨v, b', hv, q⟩ := dip_cell (S := S) (ns := ns) (a := a) (b := b) (c := c) hi hz hz2 ha hc (by omega) hb
    rw [set_same e] at q
    rw [q]
    exact ⟨v, _, hv, done_rt S _ _ (by simp), ⟨_, rfl⟩, ns, a + 1, b', c + 1, g _, by omega, by omega, by omega⟩
def SpPickG (F : Fn) : Prop := ∀ (S : Sto) (i n : Nat) (xs : List Nat), GTp S i n → n ≤ 100000 → xs ≠ [] → xs.length ≤ 1000 → ∃ (x : Nat) (S' : Sto), x ∈ xs ∧ F [.ref i, .lst (xs.map iN)] S = .ok (iN x) S' ∧ GCh S S' i (n + 1)
theorem law_pickG_ok {F1 : Fn} (h1 : SpDip F1) : SpPickG (dBody false 2 (B__law_pick_1 F1)) := by
  intro S i n xs ht hn hx hl
  obtain ⟨v, S', hv, e, ch⟩ := h1 S i n xs.length ht hn (List.length_pos_iff.mpr hx) hl
  have e : F1 [.ref i, .int (((xs.map iN).length : Nat) : Int)] S = .ok (iN v) S' := by rw [List.length_map]; exact e
  have gx : (xs.map iN)[v]? = some (iN xs[v]) := by rw [List.getElem?_map, List.getElem?_eq_getElem hv]; rfl
  refine ⟨xs[v], S', List.getElem_mem hv, ?_, ch⟩
  show doneR false S (B__law_pick_1 F1 [some (.ref i), some (.lst (xs.map iN))] S) = _
  simp_arith only [B__law_pick_1, e, ixD_lst, atI_nat gx, done_rt S S' _ ch.len]
def SpSpring (F : Fn) : Prop := ∀ (ns : List Int) (S : Sto), ∃ ms, F [.lst (ns.map D.int)] S = .ok (.ref S.length) (S ++ [sprOb ms 0 0 0])
theorem law_spring_ok : SpSpring (dBody true 1 B__law_spring) := by
  intro ns S
  refine ⟨ns.take 60, ?_⟩
  show doneR true S (B__law_spring [some (.lst (ns.map D.int))] S) = _
  have c : cutL (ns.map D.int) none (some 60) = (ns.take 60).map D.int := by
    have := cut_take' (ns.map D.int) 60
    rw [← List.map_take] at this
    exact this
  have h1 : eCallP listD (aCons (eSl (eVar 0) oNone (oSome (eC (.int 60)))) aNil) [some (.lst (ns.map D.int))] S = .ok (.lst ((ns.take 60).map D.int)) S := by simp_arith only [c]
  generalize ns.take 60 = ms at h1 ⊢
  have m : mergeD [] (sprKV ms 0 0 0) = sprKV ms 0 0 0 := by
    have := mergeD_new (sprKV ms 0 0 0) [] (by intro q _ q' h; cases h) (by
      show [(.inr "cells" : Key), .inr "place", .inr "rest", .inr "count"].Nodup
      decide +kernel)
    rwa [List.nil_append] at this
  have d : eDisp [((eC (.str "cells")), (eCallP listD (aCons (eSl (eVar 0) oNone (oSome (eC (.int 60)))) aNil))), ((eC (.str "place")), (eC (.int 0))), ((eC (.str "rest")), (eC (.int 0))), ((eC (.str "count")), (eC (.int 0)))] [some (.lst (ns.map D.int))] S = .ok (.ref S.length) (S ++ [sprOb ms 0 0 0]) := by
    unfold eDisp
    have cc : ∀ (d : D) (r : FL.Env) (S : Sto), eC d r S = .ok d S := fun _ _ _ => rfl
    simp only [pairsD, bnd, cc, h1, FL.ret, opt, D.key?]
    rw [show [((.inr "cells" : Key), D.lst (ms.map D.int)), (.inr "place", .int 0), (.inr "rest", .int 0), (.inr "count", .int 0)] = sprKV ms 0 0 0 from rfl, m]
    rw [if_pos (by simp [sprKV])]
    rfl
  simp_arith only [B__law_spring, d]
  rfl
theorem gtp_spr (ns : List Int) (S : Sto) : GTp (S ++ [sprOb ns 0 0 0]) S.length 0 := ⟨ns, 0, 0, 0, by simp, by omega, by omega, by omega⟩
end SS
end
section
set_option linter.all false
set_option autoImplicit false
set_option maxRecDepth 100000
namespace SS
/-! Plain laws of modulus sets: told otherwise, a least one gone, powers of two, the greatest exception. -/
theorem Clo.wrap {P f : Nat} {G : List Nat} (h : Clo P G) (hf : 0 < f) : Clo (P * f) ((divs (P * f)).filter fun d => decide (Nat.gcd d P ∈ G)) ∧
    leasts ((divs (P * f)).filter fun d => decide (Nat.gcd d P ∈ G)) = leasts G ∧ ∀ n, Nat.gcd n (P * f) ∈ ((divs (P * f)).filter fun d => decide (Nat.gcd d P ∈ G)) ↔ Nat.gcd n P ∈ G := by
  have hP : 0 < P * f := Nat.mul_pos h.pos hf
  have mem : ∀ d, d ∈ ((divs (P * f)).filter fun d => decide (Nat.gcd d P ∈ G)) ↔ d ∣ P * f ∧ Nat.gcd d P ∈ G := fun d => by
    rw [List.mem_filter, mem_divs hP, decide_eq_true_eq]
  have sub : ∀ d ∈ G, d ∣ P * f ∧ Nat.gcd d P = d := fun d hd => ⟨Nat.dvd_trans (h.dv d hd) (Nat.dvd_mul_right P f), Nat.gcd_eq_left (h.dv d hd)⟩
  have c : Clo (P * f) ((divs (P * f)).filter fun d => decide (Nat.gcd d P ∈ G)) := by
    refine ⟨hP, (divs_pw _).sublist List.filter_sublist, fun d hd => ((mem d).mp hd).1, fun d hd e h1 h2 => (mem e).mpr ⟨h2, ?_⟩⟩
    exact h.up _ ((mem d).mp hd).2 _ (Nat.gcd_dvd_gcd_of_dvd_left P h1) (Nat.gcd_dvd_right e P)
  refine ⟨c, ?_, fun n => ?_⟩
  · refine pw_ext (c.pw.sublist List.filter_sublist) (h.pw.sublist List.filter_sublist) fun a => ?_
    rw [mem_leasts, mem_leasts]
    constructor
    · intro ⟨a1, a2⟩
      obtain ⟨b1, b2⟩ := (mem a).mp a1
      have ga : Nat.gcd a P ∈ ((divs (P * f)).filter fun d => decide (Nat.gcd d P ∈ G)) := (mem _).mpr ⟨(sub _ b2).1, by rw [(sub _ b2).2]; exact b2⟩
      have e : Nat.gcd a P = a := by
        rcases Nat.lt_or_ge (Nat.gcd a P) a with l | l
        · exact absurd (Nat.gcd_dvd_left a P) (a2 _ ga l)
        · exact Nat.le_antisymm (Nat.le_of_dvd (c.gpos a1) (Nat.gcd_dvd_left a P)) l
      rw [e] at b2
      exact ⟨b2, fun x hx hl hz => a2 x ((mem x).mpr ⟨(sub x hx).1, by rw [(sub x hx).2]; exact hx⟩) hl hz⟩
    · intro ⟨a1, a2⟩
      refine ⟨(mem a).mpr ⟨(sub a a1).1, by rw [(sub a a1).2]; exact a1⟩, fun x hx hl hz => ?_⟩
      obtain ⟨x1, x2⟩ := (mem x).mp hx
      have xp : x ∣ P := Nat.dvd_trans hz (h.dv a a1)
      rw [Nat.gcd_eq_left xp] at x2
      exact a2 x x2 hl hz
  · rw [mem]
    have e : Nat.gcd (Nat.gcd n (P * f)) P = Nat.gcd n P := by
      rw [Nat.gcd_assoc, Nat.gcd_eq_right (Nat.dvd_mul_right P f)]
    rw [e]
    exact ⟨fun q => q.2, fun q => ⟨Nat.gcd_dvd_right n _, q⟩⟩
theorem Clo.tail {P g : Nat} {G : List Nat} (h : Clo P (g :: G)) : Clo P G := by
  have p := List.pairwise_cons.mp h.pw
  refine ⟨h.pos, p.2, fun d hd => h.dv d (List.mem_cons_of_mem _ hd), fun d hd e h1 h2 => ?_⟩
  rcases List.mem_cons.mp (h.up d (List.mem_cons_of_mem _ hd) e h1 h2) with rfl | q
  · have := Nat.le_of_dvd (h.gpos List.mem_cons_self) h1
    have := p.1 d hd
    omega
  · exact q
theorem Clo.tail_ne {P g : Nat} {G : List Nat} (h : Clo P (g :: G)) : late G ≠ late (g :: G) := fun e => by
  have p := List.pairwise_cons.mp h.pw
  have l : leasts G = leasts (g :: G) := by rw [← h.tail.leasts_late, e, h.leasts_late]
  obtain ⟨x, hx, hz⟩ := (h.mem_iff (h.dv g List.mem_cons_self)).mp List.mem_cons_self
  rw [← l] at hx
  have := h.tail.up x (mem_leasts.mp hx).1 g hz (h.dv g List.mem_cons_self)
  exact absurd (p.1 g this) (Nat.lt_irrefl _)
/-! the greatest -/
theorem topN_ge {O : List Nat} (h : O.Pairwise (· < ·)) : ∀ o ∈ O, o ≤ topN O := by
  intro o ho
  rcases List.eq_nil_or_concat O with rfl | ⟨L, z, rfl⟩
  · cases ho
  · have t : topN (L.concat z) = z := by unfold topN; simp
    rw [t]
    rw [List.concat_eq_append, List.mem_append, List.mem_singleton] at ho
    rw [List.concat_eq_append, List.pairwise_append] at h
    rcases ho with q | q
    · exact Nat.le_of_lt (h.2.2 o q z (by simp))
    · omega
theorem topN_mem {O : List Nat} : topN O = 0 ∨ topN O ∈ O := by
  rcases List.eq_nil_or_concat O with rfl | ⟨L, z, rfl⟩
  · exact .inl rfl
  · have t : topN (L.concat z) = z := by unfold topN; simp
    rw [t]
    exact .inr (by simp)
theorem bestL_top {O : List Nat} (h : O.Pairwise (· < ·)) : FL.bestL max (0 :: O.map fun n : Nat => (n : Int)) = some ((topN O : Nat) : Int) := by
  have e : FL.bestL max (0 :: O.map fun n : Nat => (n : Int)) = some ((O.map fun n : Nat => (n : Int)).foldl max 0) := rfl
  rw [e]
  congr 1
  obtain ⟨m1, m2⟩ := FL.fold_max (O.map fun n : Nat => (n : Int)) 0
  refine Int.le_antisymm ?_ ?_
  · rcases List.mem_cons.mp m1 with q | q
    · rw [q]; omega
    · obtain ⟨o, ho, eo⟩ := List.mem_map.mp q
      have := topN_ge h o ho
      omega
  · rcases topN_mem (O := O) with q | q
    · rw [q]; exact m2 0 List.mem_cons_self
    · exact m2 _ (List.mem_cons_of_mem _ (List.mem_map.mpr ⟨_, q, rfl⟩))
/-! something is in it -/
theorem Vm.some {P : Nat} {G O : List Nat} (v : Vm P G O) (ne : G ≠ []) : ∃ n, topN O < n ∧ n ≤ topN O + P ∧ hasB P G O n = true := by
  have hP := v.clo.pos
  have e := Nat.div_add_mod (topN O) P
  have l := Nat.mod_lt (topN O) hP
  have pg : P ∈ G := by
    cases G with
    | nil => exact absurd rfl ne
    | cons g G => exact v.clo.up g List.mem_cons_self P (v.clo.dv g List.mem_cons_self) (Nat.dvd_refl P)
  have d1 : P * (topN O / P + 1) = P * (topN O / P) + P := by rw [Nat.mul_add, Nat.mul_one]
  refine ⟨P * (topN O / P + 1), by omega, by omega, ?_⟩
  unfold hasB
  rw [Nat.gcd_eq_right (Nat.dvd_mul_right P _), decide_eq_true pg, Bool.true_and, Bool.not_eq_true']
  refine decide_eq_false fun q => ?_
  have := topN_ge v.ord _ q
  omega
theorem hasB_nil (P : Nat) (O : List Nat) (n : Nat) : hasB P [] O n = false := by
  unfold hasB
  rw [decide_eq_false (by simp), Bool.false_and]
/-! powers of two -/
theorem find_two {f : Nat → Bool} {m a b : Nat} (h : ∀ e, f e = true → ∃ e', e' ≤ m ∧ f e' = true) (ha : m < a) (hb : m < b) : (List.range a).find? f = (List.range b).find? f := by
  by_cases q : ∃ e, f e = true
  · obtain ⟨e, he⟩ := q
    obtain ⟨e1, l1, h1⟩ := h e he
    have key : ∀ c, m < c → ∃ x, (List.range c).find? f = some x ∧ x ≤ m ∧ f x = true ∧ ∀ j, j < x → f j = false := fun c hc => by
      have s : ((List.range c).find? f).isSome = true := by
        rw [List.find?_isSome]
        exact ⟨e1, List.mem_range.mpr (by omega), h1⟩
      obtain ⟨x, hx⟩ := Option.isSome_iff_exists.mp s
      obtain ⟨x1, x2, x3⟩ := List.find?_range_eq_some.mp hx
      refine ⟨x, hx, ?_, x1, fun j hj => by simpa using x3 j hj⟩
      rcases Nat.lt_or_ge m x with l | l
      · have := x3 e1 (by omega)
        rw [h1] at this
        simp at this
      · exact l
    obtain ⟨x, x0, x1, x2, x3⟩ := key a ha
    obtain ⟨y, y0, y1, y2, y3⟩ := key b hb
    rw [x0, y0]
    rcases Nat.lt_trichotomy x y with l | l | l
    · have := y3 x l; rw [x2] at this; cases this
    · rw [l]
    · have := x3 y l; rw [y2] at this; cases this
  · have n : ∀ c, (List.range c).find? f = none := fun c => List.find?_eq_none.mpr fun x _ z => q ⟨x, z⟩
    rw [n, n]
theorem Vm.pow {P : Nat} {G O : List Nat} (v : Vm P G O) {w r : Nat} (hP : P = 2 ^ w * r) (hr : r % 2 = 1) {e : Nat} (he : hasB P G O (2 ^ e) = true) : ∃ e', e' ≤ w + O.length ∧ hasB P G O (2 ^ e') = true := by
  have m : Nat.gcd (2 ^ e) P ∈ G := by
    unfold hasB at he
    exact of_decide_eq_true (Bool.and_eq_true_iff.mp he).1
  have cp : Nat.Coprime (2 ^ e) r := by
    refine Nat.Coprime.pow_left e ?_
    rw [Nat.coprime_comm]
    unfold Nat.Coprime
    rw [Nat.gcd_comm, Nat.gcd_rec, hr]
    decide
  have g2 : Nat.gcd (2 ^ e) P ∣ 2 ^ w := by
    have d1 := Nat.gcd_dvd_left (2 ^ e) P
    have d2 := Nat.gcd_dvd_right (2 ^ e) P
    have c2 : Nat.Coprime (Nat.gcd (2 ^ e) P) r := Nat.Coprime.coprime_dvd_left d1 cp
    generalize Nat.gcd (2 ^ e) P = x at *
    rw [hP] at d2
    exact c2.dvd_of_dvd_mul_right d2
  have pw : 2 ^ w ∈ G := v.clo.up _ m _ g2 ⟨r, hP⟩
  have big : ∀ e', w ≤ e' → Nat.gcd (2 ^ e') P ∈ G := fun e' h => by
    refine v.clo.up _ pw _ (Nat.dvd_gcd (Nat.pow_dvd_pow 2 h) ⟨r, hP⟩) (Nat.gcd_dvd_right _ _)
  by_cases q : ∃ e', w ≤ e' ∧ e' ≤ w + O.length ∧ 2 ^ e' ∉ O
  · obtain ⟨e', a, b, c⟩ := q
    refine ⟨e', b, ?_⟩
    unfold hasB
    rw [decide_eq_true (big e' a), decide_eq_false c]
    rfl
  · exfalso
    have all : ∀ e', w ≤ e' → e' ≤ w + O.length → 2 ^ e' ∈ O := fun e' a b => by
      rcases Classical.em (2 ^ e' ∈ O) with z | z
      · exact z
      · exact absurd ⟨e', a, b, z⟩ q
    have nd : ((List.range' w (O.length + 1)).map fun e' => 2 ^ e').Nodup := by
      refine List.pairwise_map.mpr ((List.pairwise_lt_range' (s := w) (n := O.length + 1)).imp fun {a b} l z => ?_)
      have := Nat.pow_lt_pow_right (a := 2) (by omega) l
      omega
    have := List.Nodup.length_le_of_subset nd (l₂ := O) fun x hx => by
      obtain ⟨e', he', rfl⟩ := List.mem_map.mp hx
      rw [List.mem_range'_1] at he'
      exact all e' he'.1 (by omega)
    rw [List.length_map, List.length_range'] at this
    omega
end SS
end
section
set_option Elab.async false
set_option linter.all false
set_option maxRecDepth 100000
set_option autoImplicit false
set_option maxHeartbeats 4000000
namespace SS
open PySem PySem.Spec PyProof.Rows L2 FL
local macro_rules
  | `(tactic| simp_arith only [$xs,*]) => `(tactic| simp (config := { implicitDefEqProofs := false }) only [tn_ok, oR_some, nx_ok, ev_var, ev_c, ev_bin, ev_kBin1, ev_kBin2, ev_un, ev_kUn, ev_asB, ev_kB, ev_asT, ev_kT, ev_tAnd2, ev_kAndT, ev_kAndF, ev_tOr2, ev_kOrT, ev_kOrF, ev_not, ev_kNot, ev_eAnd2, ev_kAndE, ev_kAndET, ev_kAndEF, ev_eOr2, ev_kOrE, ev_kOrET, ev_kOrEF, ev_eNot1, ev_kNotE, ev_kNotE2, ev_if, ev_kIfT, ev_kIfF, ev_aNil, ev_aCons, ev_kCons, ev_kCons2, ev_aStar, ev_kStar, ev_kStar2, ev_kStar3, ev_eTup, ev_kTup, ev_kTup2, ev_eLst, ev_kLst, ev_kLst2, ev_eNewL, ev_kNewL, ev_kNewL2, ev_newD, ev_callP, ev_kCallP, ev_call, ev_kCall, ev_kCall2, ev_oNone, ev_oSome, ev_kO, ev_kO2, ev_sl, ev_kSl, ev_kSl2, ev_kSl3, ev_sl3, ev_kT1, ev_kT2, ev_kT3, ev_kT4, ev_listRg, ev_kLR, ev_kLR2, ev_forM, ev_forMr, ev_forMl, ev_forMt, ev_forR, ev_meth, ev_kM, ev_kM2, ev_kM3, ev_meth0, ev_kM0, ev_chain, ev_kCh, ev_kCh2, ev_kCh3T, ev_kCh3F, ev_kCh4, ev_kLs, ev_kComp, ev_comp, ev_kRef, ev_compM, ev_kComp2, ev_comp2, ev_iSeq, ev_kIt, ev_iRange, ev_kRg, ev_enT, ev_enL, ev_iEnum, items_lst, items_tup, items_str, ev_true, ev_ret, ev_kRet, ev_expr, ev_kEx, ev_asg, ev_kAsg, ev_kNx, ev_seq, ev_kSeqN, ev_kSeqR, ev_kSeqB, ev_kSeqC, ev_ifS, ev_kIfST, ev_kIfSF, ev_for, ev_kFor, ev_next, ev_retN, ev_break, ev_cont, ev_par, ev_kPar, ev_par3, ev_kPar3, ev_gName, ev_gTup, ev_gsNil, ev_gsCons, ev_kGs, ev_gSub, ev_kSub, ev_kSub2, ev_kSub3, ev_kSub4, ev_mut, ev_kMu, ev_kMu2, ev_kMu3, ev_kMu4, ev_catM, ev_kCat, ev_kCat2, ev_catR, vw_non, vw_bl, vw_int, vw_str, vw_lst, vw_tup, vw_dct, vw_ref, vwO_lst, vwO_dct, tru_bl, tru_int, tru_lst, tru_tup, tru_non, add_int, add_lst, add_tup, add_str, sub_int, neg_int, gt_int, ge_int, lt_int, le_int, len_lst, len_tup, len_dct, len_str, int_int, tuple_lst, tuple_tup, list_lst, list_tup, sl_lst, sl_tup, is_non, isnt_non, non_bl, non_int, non_str, non_lst, non_tup, non_non, int_int?, ref_ref?, alt_tup, alt_lst, isi_int_non, isi_int_bl, isi_int_int, isi_int_str, isi_int_lst, isi_int_tup, isi_bool_non, isi_bool_bl, isi_bool_int, isi_bool_str, isi_bool_lst, isi_bool_tup, isi_str_non, isi_str_bl, isi_str_int, isi_str_str, isi_str_lst, isi_str_tup, isi_tuple_non, isi_tuple_bl, isi_tuple_int, isi_tuple_str, isi_tuple_lst, isi_tuple_tup, isi_list_non, isi_list_bl, isi_list_int, isi_list_str, isi_list_lst, isi_list_tup, isi_dict_non, isi_dict_bl, isi_dict_int, isi_dict_str, isi_dict_lst, isi_dict_tup, tyIn_lst2, tyD_lst, tyIn_tup2, tyD_tup, tyIn_str, tyD_str, tyIn_dct, tyD_dct, ev_cStep, ev_kC, ev_kC2T, ev_kC2F, ev_kSome, ev_cStep2, ev_kD, ev_kD2T, ev_kD2F, ev_kD3, ev_lStep, ev_kL, List.getElem?_cons_zero, List.getElem?_cons_succ, Option.join_some, Option.bind_some, Option.map_some, wipeE, List.set_cons_zero, List.set_cons_succ, List.length_cons, List.length_nil, List.map_cons, List.map_nil, gAll, gDef, List.cons_append, List.nil_append, if_true, if_false, Bool.not_true, Bool.not_false, Nat.zero_add, Nat.reduceAdd, Nat.reduceLeDiff, and_true, and_self, true_and, reduceIte, Bool.false_eq_true, $xs,*])
/-! ## the law's own functions -/
def SpInL (F : Fn) : Prop := ∀ (P : Nat) (G O : List Nat) (n : Nat) (S : Sto), P ≤ 390 → F [formD P G O, iN n] S = .ok (.bl (decide (0 < n) && hasB P G O n)) S
theorem law_in_ok {F1 : Fn} (h1 : SpGcdB 390 F1) : SpInL (dBody false 2 (B__law_in F1)) := by
  intro P G O n S hP
  have e1 := h1 n P S hP
  have i1 := (in_nat (a := Nat.gcd n P) (.inr rfl : SeqN (.tup (G.map iN)) G)).1
  have i2 := (in_nat (a := n) (.inr rfl : SeqN (.tup (O.map iN)) O)).2
  show doneR false S (B__law_in F1 [some (formD P G O), some (iN n)] S) = _
  unfold hasB
  by_cases z : 0 < n
  · rw [decide_eq_true z, Bool.true_and]
    by_cases q : Nat.gcd n P ∈ G
    · rw [decide_eq_true q] at i1 ⊢
      simp_arith only [B__law_in, formD, ixD_tup, atI_0, atI_1, atI_2, decide_eq_true (show (0 : Int) < (n : Int) by omega), e1, i1, i2, done_eq, Bool.true_and]
    · rw [decide_eq_false q] at i1 ⊢
      simp_arith only [B__law_in, formD, ixD_tup, atI_0, atI_1, atI_2, decide_eq_true (show (0 : Int) < (n : Int) by omega), e1, i1, done_eq, Bool.false_and]
  · rw [decide_eq_false z, Bool.false_and]
    simp_arith only [B__law_in, formD, decide_eq_false (show ¬ (0 : Int) < (n : Int) by omega), done_eq]
theorem eq_nilN (L : List Nat) : eqD (.lst (L.map iN)) (.lst []) = some (.bl L.isEmpty) := by
  rw [eq_nilL (pn_nats L).2]
  cases L <;> rfl
theorem ne_nilN (L : List Nat) : neD (.lst (L.map iN)) (.lst []) = some (.bl (!L.isEmpty)) := by
  rw [ne_nilL (pn_nats L).2]
  cases L <;> rfl
theorem ne_nilNT (L : List Nat) : neD (.tup (L.map iN)) (.tup []) = some (.bl (!L.isEmpty)) := by
  rw [ne_nilT (pn_nats L).1]
  cases L <;> rfl
theorem filt_empty {α : Type} (f : α → Bool) (L : List α) : (L.filter f).isEmpty = !(L.any f) := by
  induction L with
  | nil => rfl
  | cons a L ih =>
    rw [List.any_cons, List.filter_cons]
    cases f a <;> simp [ih]
def SpLeastL (F : Fn) : Prop := ∀ (P : Nat) (G O : List Nat) (S : Sto), Vm P G O → P ≤ 390 → F [iN P, .lst (G.map iN), .lst (O.map iN)] S = .ok (formD (lcmL (leasts G)) (late G) O) S
theorem law_least_ok {F1 : Fn} (h1 : SpLcm 390 F1) : SpLeastL (dBody false 7 (B__law_least F1)) := by
  intro P G O S v hP
  have lG := v.clo.len
  have gp : ∀ g ∈ G, 0 < g := fun g hg => v.clo.gpos hg
  have inner : ∀ a ∈ G, compD (gName' 6) (B__law_least_T1 F1) (eVar 6) [some (iN P), some (.lst (G.map iN)), some (.lst (O.map iN)), none, none, some (iN a), none] (G.map iN) [] S = .ok ((G.filter fun e => decide (e < a) && a % e == 0).map iN) S := fun a _ =>
    compD_filter (S := S) (b := gName' 6) (t := B__law_least_T1 F1) (e := eVar 6) (r0 := [some (iN P), some (.lst (G.map iN)), some (.lst (O.map iN)), none, none, some (iN a), none]) iN (fun e => decide (e < a) && a % e == 0) G (fun e he => by
      obtain ⟨m1, m2⟩ := mod_zero (n := a) (gp e he)
      by_cases q : e < a
      · simp_arith only [B__law_least_T1, decide_eq_true (show (e : Int) < (a : Int) by omega), m1, m2, decide_eq_true q, Bool.true_and]
        cases (a % e == 0) <;> simp_arith only [] <;> rfl
      · simp_arith only [B__law_least_T1, decide_eq_false (show ¬ (e : Int) < (a : Int) by omega), decide_eq_false q, Bool.false_and]) (by omega)
  have outer := compD_filter (S := S) (b := gName' 5) (t := B__law_least_T2 F1) (e := eVar 5) (r0 := [some (iN P), some (.lst (G.map iN)), some (.lst (O.map iN)), none, none, none, none]) iN (fun a => !(G.any fun e => decide (e < a) && a % e == 0)) G (fun a ha => by
    have i := inner a ha
    simp_arith only [B__law_least_T2, i, few0, eq_nilN, filt_empty]
    cases (G.any fun e => decide (e < a) && a % e == 0) <;> simp_arith only [] <;> rfl) (by omega)
  have outer : compD (gName' 5) (B__law_least_T2 F1) (eVar 5) [some (iN P), some (.lst (G.map iN)), some (.lst (O.map iN)), none, none, none, none] (G.map iN) [] S = .ok ((leasts G).map iN) S := outer
  obtain ⟨W, hW⟩ : ∃ W, W = lcmL (leasts G) := ⟨_, rfl⟩
  have w0 : 0 < W := by rw [hW]; exact v.clo.wpos
  have e1 := h1 (leasts G) S fun l hl => ⟨gp l (mem_leasts.mp hl).1, by have := Nat.le_of_dvd v.clo.pos (v.clo.dv l (mem_leasts.mp hl).1); omega⟩
  rw [← hW] at e1
  have third := compD_filter (S := S) (b := gName' 5) (t := B__law_least_T3 F1) (e := eVar 5) (r0 := [some (iN P), some (.lst (G.map iN)), some (.lst (O.map iN)), some (.lst ((leasts G).map iN)), some (iN W), none, none]) iN (fun d => W % d == 0) G (fun a ha => by
    obtain ⟨m1, m2⟩ := mod_zero (n := W) (gp a ha)
    simp_arith only [B__law_least_T3, m1, m2]
    cases (W % a == 0) <;> simp_arith only [] <;> rfl) (by omega)
  have le : (G.filter fun d => W % d == 0) = late G := by rw [hW]; exact v.clo.late_eq.symm
  rw [le] at third
  have so := sortB_nat (ns := O) (ms := O) (by have := v.len; omega) v.ord fun _ => Iff.rfl
  have fw : few [iN W, .tup ((late G).map iN), .tup (O.map iN)] = some [iN W, .tup ((late G).map iN), .tup (O.map iN)] := few_ok (by simp)
  rw [← hW]
  show doneR false S (B__law_least F1 [some (iN P), some (.lst (G.map iN)), some (.lst (O.map iN)), none, none, none, none] S) = _
  cases hG : G.isEmpty with
  | true =>
    have g0 : G = [] := List.isEmpty_iff.mp hG
    have w1 : W = 1 := by rw [hW, g0]; rfl
    have ne := ne_nilN G
    rw [hG] at ne
    have third : compD (gName' 5) (B__law_least_T3 F1) (eVar 5) [some (iN P), some (.lst (G.map iN)), some (.lst (O.map iN)), some (.lst ((leasts G).map iN)), some (.int 1), none, none] (G.map iN) [] S = .ok ((late G).map iN) S := by rw [w1] at third; exact third
    have fw : few [D.int 1, .tup ((late G).map iN), .tup (O.map iN)] = some [D.int 1, .tup ((late G).map iN), .tup (O.map iN)] := few_ok (by simp)
    simp_arith only [B__law_least, outer, few0, ne, third, so, fw, done_eq, formD, w1]
    rfl
  | false =>
    have ne := ne_nilN G
    rw [hG] at ne
    simp_arith only [B__law_least, outer, few0, ne, e1, third, so, fw, done_eq, formD]
/-! ## what is drawn -/
theorem dips_comp {F1 : Fn} (h1 : SpDip F1) {i j z : Nat} (hz : 0 < z) (hz2 : z ≤ 1000) {T : FTx} {E : FEx} {r0 : FL.Env} (hT : ∀ (d : Nat) (S S1 : Sto) (v : Nat), F1 [.ref i, iN z] S = .ok (iN v) S1 → cStep (gName' j) T E r0 (iN d) S = .ok (if v = 0 then some (iN d) else none) S1) :
    ∀ (ds acc : List Nat) (S : Sto) (n : Nat), GTp S i n → n + ds.length ≤ 100000 → acc.length + ds.length ≤ 1000 → ∃ (ms : List Nat) (S' : Sto), (∀ m ∈ ms, m ∈ acc ∨ m ∈ ds) ∧ ms.length ≤ acc.length + ds.length ∧ compD (gName' j) T E r0 (ds.map iN) (acc.map iN) S = .ok (ms.map iN) S' ∧ GCh S S' i (n + ds.length)
  | [], acc, S, n, t, _, _ => ⟨acc, S, fun m h => .inl h, by simp, rfl, GCh.refl t⟩
  | d :: ds, acc, S, n, t, hn, ha => by
    rw [List.length_cons] at hn ha
    obtain ⟨v, S1, hv, e, ch⟩ := h1 S i n z t (by omega) hz hz2
    have st := hT d S S1 v e
    rw [List.map_cons, compD_cons]
    by_cases q : v = 0
    · rw [if_pos q] at st
      obtain ⟨ms, S', a, b, c, g⟩ := dips_comp h1 hz hz2 hT ds (acc ++ [d]) S1 (n + 1) ch.tp (by omega) (by simp; omega)
      refine ⟨ms, S', fun m hm => ?_, by simp at b ⊢; omega, ?_, by rw [List.length_cons]; exact (ch.trans g).mono (by omega)⟩
      · rcases a m hm with x | x
        · rcases List.mem_append.mp x with y | y
          · exact .inl y
          · exact .inr (by rw [List.mem_singleton.mp y]; exact List.mem_cons_self)
        · exact .inr (List.mem_cons_of_mem _ x)
      · simp only [bnd, st, List.length_map]
        rw [if_pos (by omega)]
        rw [List.map_append] at c
        exact c
    · rw [if_neg q] at st
      obtain ⟨ms, S', a, b, c, g⟩ := dips_comp h1 hz hz2 hT ds acc S1 (n + 1) ch.tp (by omega) (by omega)
      refine ⟨ms, S', fun m hm => ?_, by simp at b ⊢; omega, ?_, by rw [List.length_cons]; exact (ch.trans g).mono (by omega)⟩
      · rcases a m hm with x | x
        · exact .inl x
        · exact .inr (List.mem_cons_of_mem _ x)
      · simp only [bnd, st]
        exact c
def wholes : List Nat := [1, 1, 2, 3, 4, 6, 8, 9, 12, 18, 24, 30, 60]
theorem wholes_ok : ∀ P ∈ wholes, 0 < P ∧ P ≤ 60 ∧ ¬ 16 ∣ P := by decide
theorem divs_few : ∀ P, P ≤ 300 → (divs P).length ≤ 20 := by
  have h : ∀ P ∈ List.range 301, (divs P).length ≤ 20 := by decide +kernel
  exact fun P hP => h P (List.mem_range.mpr (by omega))
theorem goods_few {P : Nat} {G : List Nat} (c : Clo P G) (hP : P ≤ 300) : G.length ≤ 60 := by
  have nd : G.Nodup := c.pw.imp fun {a b} (q : a < b) => by omega
  have := List.Nodup.length_le_of_subset nd (l₂ := divs P) fun a ha => (mem_divs c.pos).mpr (c.dv a ha)
  have := divs_few P hP
  omega
/-- what is drawn: a valid set -/
structure Dw (P : Nat) (G O : List Nat) : Prop where
  v : Vm P G O
  w : P ∈ wholes
  lo : O.length ≤ 10
  ob : ∀ o ∈ O, o ≤ 300
theorem parts_comp {q j : Nat} (hq : q ≤ 1000) {T : FTx} {r0 : FL.Env} {S : Sto} (hT : ∀ d, 0 < d → cStep (gName' j) T (eVar j) r0 (iN d) S = .ok (if (q % d == 0) = true then some (iN d) else none) S) :
    compD (gName' j) T (eVar j) r0 ((List.range' 1 q).map iN) [] S = .ok ((divs q).map iN) S :=
  compD_filter (S := S) (b := gName' j) (t := T) (e := eVar j) (r0 := r0) iN (fun d => q % d == 0) (List.range' 1 q) (fun d hd => by
    rw [List.mem_range'_1] at hd
    exact hT d (by omega)) (by simp; omega)
def SpDrawn (F : Fn) : Prop := ∀ (S : Sto) (i n : Nat), GTp S i n → n ≤ 90000 → ∃ (P : Nat) (G O : List Nat) (S' : Sto), Dw P G O ∧ F [.ref i] S = .ok (formD P G O) S' ∧ GCh S S' i (n + 100)
theorem some_comp {F1 : Fn} (h1 : SpDip F1) {i j : Nat} {E : FEx} {r0 : FL.Env} (hE : ∀ (k : Nat) (S S1 : Sto) (v : Nat), k < 4 → F1 [.ref i, iN ([12, 12, 40, 300].getD k 0)] S = .ok (iN v) S1 → cStep (gName' j) tTrue E r0 (iN k) S = .ok (some (iN (1 + v))) S1) :
    ∀ (ks acc : List Nat) (S : Sto) (n : Nat), (∀ k ∈ ks, k < 4) → GTp S i n → n + ks.length ≤ 100000 → acc.length + ks.length ≤ 1000 → (∀ a ∈ acc, 0 < a ∧ a ≤ 300) → ∃ (ms : List Nat) (S' : Sto), (∀ m ∈ ms, 0 < m ∧ m ≤ 300) ∧ ms.length = acc.length + ks.length ∧ compD (gName' j) tTrue E r0 (ks.map iN) (acc.map iN) S = .ok (ms.map iN) S' ∧ GCh S S' i (n + ks.length)
  | [], acc, S, n, _, t, _, _, ho => ⟨acc, S, ho, by simp, rfl, GCh.refl t⟩
  | k :: ks, acc, S, n, hk, t, hn, ha, ho => by
    rw [List.length_cons] at hn ha
    have k4 := hk k List.mem_cons_self
    have zb : 0 < [12, 12, 40, 300].getD k 0 ∧ [12, 12, 40, 300].getD k 0 ≤ 300 := by
      match k, k4 with
      | 0, _ => decide
      | 1, _ => decide
      | 2, _ => decide
      | 3, _ => decide
    obtain ⟨v, S1, hv, e, ch⟩ := h1 S i n _ t (by omega) zb.1 (by omega)
    have st := hE k S S1 v k4 e
    obtain ⟨ms, S', a, b, c, g⟩ := some_comp h1 hE ks (acc ++ [1 + v]) S1 (n + 1) (fun x hx => hk x (List.mem_cons_of_mem _ hx)) ch.tp (by omega) (by simp; omega) (fun x hx => by
      rcases List.mem_append.mp hx with y | y
      · exact ho x y
      · rw [List.mem_singleton.mp y]; omega)
    refine ⟨ms, S', a, by simp at b ⊢; omega, ?_, by rw [List.length_cons]; exact (ch.trans g).mono (by omega)⟩
    rw [List.map_cons, compD_cons]
    simp only [bnd, st, List.length_map]
    rw [if_pos (by omega)]
    rw [List.map_append] at c
    exact c
/-- a strictly rising list of the same numbers -/
theorem risen (L : List Nat) : ∃ M : List Nat, M.Pairwise (· < ·) ∧ (∀ a, a ∈ M ↔ a ∈ L) ∧ M.length ≤ L.length := by
  induction L with
  | nil => exact ⟨[], .nil, fun _ => Iff.rfl, Nat.le_refl _⟩
  | cons x L ih =>
    obtain ⟨M, h1, h2, h3⟩ := ih
    by_cases q : x ∈ M
    · refine ⟨M, h1, fun a => ?_, by rw [List.length_cons]; omega⟩
      rw [List.mem_cons, h2 a]
      constructor
      · exact .inr
      · rintro (rfl | h)
        · exact (h2 a).mp q
        · exact h
    · refine ⟨M.filter (fun y => decide (y < x)) ++ x :: M.filter fun y => decide (x < y), ?_, fun a => ?_, ?_⟩
      · refine List.pairwise_append.mpr ⟨h1.sublist List.filter_sublist, List.pairwise_cons.mpr ⟨fun y hy => by simpa using (List.mem_filter.mp hy).2, h1.sublist List.filter_sublist⟩, fun a ha b hb => ?_⟩
        have a1 : a < x := by simpa using (List.mem_filter.mp ha).2
        rcases List.mem_cons.mp hb with rfl | hb
        · exact a1
        · have b1 : x < b := by simpa using (List.mem_filter.mp hb).2
          omega
      · rw [List.mem_append, List.mem_cons, List.mem_filter, List.mem_filter, List.mem_cons, ← h2 a, decide_eq_true_eq, decide_eq_true_eq]
        constructor
        · rintro (h | h | h)
          · exact .inr h.1
          · exact .inl h
          · exact .inr h.1
        · rintro (h | h)
          · exact .inr (.inl h)
          · rcases Nat.lt_trichotomy a x with l | l | l
            · exact .inl ⟨h, l⟩
            · exact .inr (.inl l)
            · exact .inr (.inr ⟨h, l⟩)
      · have e : ∀ N : List Nat, (N.filter fun y => decide (y < x)).length + (N.filter fun y => decide (x < y)).length ≤ N.length := fun N => by
          induction N with
          | nil => simp
          | cons y N ih =>
            rw [List.filter_cons, List.filter_cons, List.length_cons]
            rcases Nat.lt_trichotomy y x with l | l | l
            · rw [if_pos (by simpa using l), if_neg (by simp; omega), List.length_cons]; omega
            · rw [if_neg (by simp; omega), if_neg (by simp; omega)]; omega
            · rw [if_neg (by simp; omega), if_pos (by simpa using l), List.length_cons]; omega
        have := e M
        rw [List.length_append, List.length_cons, List.length_cons]
        omega
end SS
end
section
set_option Elab.async false
set_option linter.all false
set_option maxRecDepth 100000
set_option autoImplicit false
set_option maxHeartbeats 4000000
namespace SS
open PySem PySem.Spec PyProof.Rows L2 FL
local macro_rules
  | `(tactic| simp_arith only [$xs,*]) => `(tactic| simp (config := { implicitDefEqProofs := false }) only [tn_ok, oR_some, nx_ok, ev_var, ev_c, ev_bin, ev_kBin1, ev_kBin2, ev_un, ev_kUn, ev_asB, ev_kB, ev_asT, ev_kT, ev_tAnd2, ev_kAndT, ev_kAndF, ev_tOr2, ev_kOrT, ev_kOrF, ev_not, ev_kNot, ev_eAnd2, ev_kAndE, ev_kAndET, ev_kAndEF, ev_eOr2, ev_kOrE, ev_kOrET, ev_kOrEF, ev_eNot1, ev_kNotE, ev_kNotE2, ev_if, ev_kIfT, ev_kIfF, ev_aNil, ev_aCons, ev_kCons, ev_kCons2, ev_aStar, ev_kStar, ev_kStar2, ev_kStar3, ev_eTup, ev_kTup, ev_kTup2, ev_eLst, ev_kLst, ev_kLst2, ev_eNewL, ev_kNewL, ev_kNewL2, ev_newD, ev_callP, ev_kCallP, ev_call, ev_kCall, ev_kCall2, ev_oNone, ev_oSome, ev_kO, ev_kO2, ev_sl, ev_kSl, ev_kSl2, ev_kSl3, ev_sl3, ev_kT1, ev_kT2, ev_kT3, ev_kT4, ev_listRg, ev_kLR, ev_kLR2, ev_forM, ev_forMr, ev_forMl, ev_forMt, ev_forR, ev_meth, ev_kM, ev_kM2, ev_kM3, ev_meth0, ev_kM0, ev_chain, ev_kCh, ev_kCh2, ev_kCh3T, ev_kCh3F, ev_kCh4, ev_kLs, ev_kComp, ev_comp, ev_kRef, ev_compM, ev_kComp2, ev_comp2, ev_iSeq, ev_kIt, ev_iRange, ev_kRg, ev_enT, ev_enL, ev_iEnum, items_lst, items_tup, items_str, ev_true, ev_ret, ev_kRet, ev_expr, ev_kEx, ev_asg, ev_kAsg, ev_kNx, ev_seq, ev_kSeqN, ev_kSeqR, ev_kSeqB, ev_kSeqC, ev_ifS, ev_kIfST, ev_kIfSF, ev_for, ev_kFor, ev_next, ev_retN, ev_break, ev_cont, ev_par, ev_kPar, ev_par3, ev_kPar3, ev_gName, ev_gTup, ev_gsNil, ev_gsCons, ev_kGs, ev_gSub, ev_kSub, ev_kSub2, ev_kSub3, ev_kSub4, ev_mut, ev_kMu, ev_kMu2, ev_kMu3, ev_kMu4, ev_catM, ev_kCat, ev_kCat2, ev_catR, vw_non, vw_bl, vw_int, vw_str, vw_lst, vw_tup, vw_dct, vw_ref, vwO_lst, vwO_dct, tru_bl, tru_int, tru_lst, tru_tup, tru_non, add_int, add_lst, add_tup, add_str, sub_int, neg_int, gt_int, ge_int, lt_int, le_int, len_lst, len_tup, len_dct, len_str, int_int, tuple_lst, tuple_tup, list_lst, list_tup, sl_lst, sl_tup, is_non, isnt_non, non_bl, non_int, non_str, non_lst, non_tup, non_non, int_int?, ref_ref?, alt_tup, alt_lst, isi_int_non, isi_int_bl, isi_int_int, isi_int_str, isi_int_lst, isi_int_tup, isi_bool_non, isi_bool_bl, isi_bool_int, isi_bool_str, isi_bool_lst, isi_bool_tup, isi_str_non, isi_str_bl, isi_str_int, isi_str_str, isi_str_lst, isi_str_tup, isi_tuple_non, isi_tuple_bl, isi_tuple_int, isi_tuple_str, isi_tuple_lst, isi_tuple_tup, isi_list_non, isi_list_bl, isi_list_int, isi_list_str, isi_list_lst, isi_list_tup, isi_dict_non, isi_dict_bl, isi_dict_int, isi_dict_str, isi_dict_lst, isi_dict_tup, tyIn_lst2, tyD_lst, tyIn_tup2, tyD_tup, tyIn_str, tyD_str, tyIn_dct, tyD_dct, ev_cStep, ev_kC, ev_kC2T, ev_kC2F, ev_kSome, ev_cStep2, ev_kD, ev_kD2T, ev_kD2F, ev_kD3, ev_lStep, ev_kL, List.getElem?_cons_zero, List.getElem?_cons_succ, Option.join_some, Option.bind_some, Option.map_some, wipeE, List.set_cons_zero, List.set_cons_succ, List.length_cons, List.length_nil, List.map_cons, List.map_nil, gAll, gDef, List.cons_append, List.nil_append, if_true, if_false, Bool.not_true, Bool.not_false, Nat.zero_add, Nat.reduceAdd, Nat.reduceLeDiff, and_true, and_self, true_and, reduceIte, Bool.false_eq_true, $xs,*])
theorem int_blN (b : Bool) : intD [.bl b] = some (.int (if b = true then 1 else 0)) := by cases b <;> rfl
theorem rep_bl (x : Nat) (b : Bool) : mulD (.lst [iN x]) (.int (if b = true then 1 else 0)) = some (.lst ((if b = true then [x] else []).map iN)) := by
  have c : ∀ k : Int, -1000 ≤ k ∧ k ≤ 1000 → mulD (.lst [iN x]) (.int k) = some (.lst (List.replicate k.toNat [iN x]).flatten) := fun k hk => by
    have c : decide (([iN x] : List D).length ≤ 1000 ∧ -1000 ≤ k ∧ k ≤ 1000) = true := decide_eq_true ⟨by simp, hk.1, hk.2⟩
    simp only [mulD, alt, ii, on2, D.int?, D.tup?, D.lst?, guard', c, if_true]
  rw [c _ (by cases b <;> simp)]
  cases b <;> rfl
theorem catN {a b : List Nat} (h : a.length + b.length ≤ 1000000) : addD (.lst (a.map iN)) (.lst (b.map iN)) = some (.lst ((a ++ b).map iN)) := by
  rw [List.map_append, add_lst, cap_ok (by simpa using h)]
theorem take_nat (L : List Nat) (k : Nat) : cutL (L.map iN) none (some (k : Int)) = (L.take k).map iN := by
  rw [cut_take', List.map_take]
theorem filt_comp {j : Nat} {T : FTx} {r0 : FL.Env} {S : Sto} (f : Nat → Bool) (L : List Nat) (hl : L.length ≤ 1000000) (hT : ∀ d ∈ L, cStep (gName' j) T (eVar j) r0 (iN d) S = .ok (if f d = true then some (iN d) else none) S) :
    compD (gName' j) T (eVar j) r0 (L.map iN) [] S = .ok ((L.filter f).map iN) S := compD_filter (S := S) (b := gName' j) (t := T) (e := eVar j) (r0 := r0) iN f L hT hl
theorem law_drawn_ok {F1 F2 F3 : Fn} (h1 : SpDip F1) (h2 : SpGcdB 390 F2) (h3 : SpPickG F3) : SpDrawn (dBody false 11 (B__law_drawn_set F1 F2 F3)) := by
  intro S i n t hn
  obtain ⟨P, S1, hP, e1, c1⟩ := h3 S i n wholes t (by omega) (by decide) (by decide)
  obtain ⟨p0, p1, p2⟩ := wholes_ok P hP
  have dl := divs_len P
  have dn : divs P ≠ [] := List.ne_nil_of_mem ((mem_divs p0).mpr (Nat.one_dvd P))
  -- the parts
  have e2 : compD (gName' 7) (B__law_drawn_set_T1 F1 F2 F3) (eVar 7) [some (.ref i), some (iN P), none, none, none, none, none, none, none, none, none] ((List.range' 1 P).map iN) [] S1 = .ok ((divs P).map iN) S1 := parts_comp (by omega) fun d hd => by
    obtain ⟨m1, m2⟩ := mod_zero (n := P) hd
    simp_arith only [B__law_drawn_set_T1, m1, m2]
    cases (P % d == 0) <;> simp_arith only [] <;> rfl
  -- the least ones
  obtain ⟨ms, S2, a1, a2, e3, c2⟩ := dips_comp h1 (i := i) (j := 7) (z := 4) (by omega) (by omega) (T := B__law_drawn_set_T2 F1 F2 F3) (E := eVar 7) (r0 := [some (.ref i), some (iN P), some (.lst ((divs P).map iN)), none, none, none, none, none, none, none, none]) (fun d S S1 v e => by
    have e : F1 [.ref i, .int 4] S = .ok (iN v) S1 := e
    have z : eqD (iN v) (.int 0) = some (.bl (decide (v = 0))) := by rw [(mod_zero (n := 1) (d := 1) (by omega)).2]; congr 2
    by_cases q : v = 0
    · rw [decide_eq_true q] at z
      simp_arith only [B__law_drawn_set_T2, e, z, if_pos q]
    · rw [decide_eq_false q] at z
      simp_arith only [B__law_drawn_set_T2, e, z, if_neg q]) (divs P) [] S1 (n + 1) c1.tp (by omega) (by simp; omega)
  obtain ⟨x, S3, hx, e4, c3⟩ := h3 S2 i _ (divs P) c2.tp (by omega) dn (by omega)
  obtain ⟨v, S4, hv, e5, c4⟩ := h1 S3 i _ 6 c3.tp (by omega) (by omega) (by omega)
  obtain ⟨L, hL⟩ : ∃ L, L = ms ++ (if decide ((0 : Int) < (v : Int)) = true then [x] else []) := ⟨_, rfl⟩
  have lL : L.length ≤ 61 := by
    rw [hL, List.length_append]
    have : (if decide ((0 : Int) < (v : Int)) = true then [x] else ([] : List Nat)).length ≤ 1 := by split <;> simp
    simp at a2
    omega
  have L0 : ∀ l ∈ L, 0 < l := fun l hl => by
    rw [hL] at hl
    have : l ∈ divs P := by
      rcases List.mem_append.mp hl with q | q
      · rcases a1 l q with z | z
        · cases z
        · exact z
      · split at q
        · rw [List.mem_singleton.mp q]; exact hx
        · cases q
    exact Nat.pos_of_dvd_of_pos ((mem_divs p0).mp this) p0
  have cat1 := catN (a := ms) (b := if decide ((0 : Int) < (v : Int)) = true then [x] else []) (by rw [← List.length_append, ← hL]; omega)
  rw [← hL] at cat1
  -- the good ones
  have e6 : ∀ a, 0 < a → compD (gName' 10) (B__law_drawn_set_T3 F1 F2 F3) (eVar 10) [some (.ref i), some (iN P), some (.lst ((divs P).map iN)), some (.lst (L.map iN)), none, none, none, some (iN a), none, none, none] (L.map iN) [] S4 = .ok ((L.filter fun l => a % l == 0).map iN) S4 := fun a ha =>
    filt_comp (fun l => a % l == 0) L (by omega) fun d hd => by
      obtain ⟨m1, m2⟩ := mod_zero (n := a) (L0 d hd)
      simp_arith only [B__law_drawn_set_T3, m1, m2]
      cases (a % d == 0) <;> simp_arith only [] <;> rfl
  have e7 : compD (gName' 7) (B__law_drawn_set_T4 F1 F2 F3) (eVar 7) [some (.ref i), some (iN P), some (.lst ((divs P).map iN)), some (.lst (L.map iN)), none, none, none, none, none, none, none] ((divs P).map iN) [] S4 = .ok ((goods P L).map iN) S4 :=
    filt_comp (mulOf L) (divs P) (by omega) fun d hd => by
      have d0 := Nat.pos_of_dvd_of_pos ((mem_divs p0).mp hd) p0
      have q : (L.any fun l => d % l == 0) = mulOf L d := rfl
      simp_arith only [B__law_drawn_set_T4, e6 d d0, few0, ne_nilN, filt_empty, q]
      cases mulOf L d <;> simp_arith only [] <;> rfl
  have cl := goods_clo p0 L
  generalize goods P L = G at e7 cl
  -- the exceptions
  obtain ⟨so, S5, b1, b2, e8, c5⟩ := some_comp h1 (i := i) (j := 8) (E := B__law_drawn_set_E1 F1 F2 F3) (r0 := [some (.ref i), some (iN P), some (.lst ((divs P).map iN)), some (.lst (L.map iN)), some (.lst (G.map iN)), none, none, none, none, none, none]) (fun k S S1 v hk e => by
    have fw : few [D.int 12, .int 12, .int 40, .int 300] = some [D.int 12, .int 12, .int 40, .int 300] := few_ok (by simp)
    have at4 : atI [D.int 12, .int 12, .int 40, .int 300] (k : Int) = some (iN ([12, 12, 40, 300].getD k 0)) := atI_nat (by
      match k, hk with
      | 0, _ => rfl
      | 1, _ => rfl
      | 2, _ => rfl
      | 3, _ => rfl)
    simp_arith only [B__law_drawn_set_E1, fw, ixD_lst, at4, e]
    rw [show (1 : Int) + (v : Int) = ((1 + v : Nat) : Int) by omega]) (List.range 4) [] S4 _ (fun k hk => List.mem_range.mp hk) c4.tp (by simp; omega) (by simp) (by intro a h; cases h)
  obtain ⟨w, S6, hw, e9, c6⟩ := h1 S5 i _ 5 c5.tp (by simp; omega) (by omega) (by omega)
  obtain ⟨u, S7, hu, e10, c7⟩ := h1 S6 i _ 6 c6.tp (by simp; omega) (by omega) (by omega)
  obtain ⟨Q, hQ⟩ : ∃ Q, Q = if u = 0 then so.take w ++ [1, 2, 3, 4, 5, 6] else so.take w := ⟨_, rfl⟩
  have lt4 : (so.take w).length ≤ 4 := by rw [List.length_take, b2]; simp; omega
  have lQ : Q.length ≤ 10 := by rw [hQ]; split <;> simp <;> omega
  have oQ : ∀ o ∈ Q, 0 < o ∧ o ≤ 300 := fun o ho => by
    have s : ∀ o ∈ so.take w, 0 < o ∧ o ≤ 300 := fun o ho => b1 o (List.mem_of_mem_take ho)
    rw [hQ] at ho
    split at ho
    · rcases List.mem_append.mp ho with q | q
      · exact s o q
      · simp at q; omega
    · exact s o ho
  have e11 : compD (gName' 9) (B__law_drawn_set_T5 F1 F2 F3) (eVar 9) [some (.ref i), some (iN P), some (.lst ((divs P).map iN)), some (.lst (L.map iN)), some (.lst (G.map iN)), some (.lst (Q.map iN)), none, none, none, none, none] (Q.map iN) [] S7 = .ok ((Q.filter fun o => decide (Nat.gcd o P ∈ G)).map iN) S7 :=
    filt_comp (fun o => decide (Nat.gcd o P ∈ G)) Q (by omega) fun d hd => by
      have g1 := h2 d P S7 (by omega)
      have i1 := (in_nat (a := Nat.gcd d P) (.inl rfl : SeqN (.lst (G.map iN)) G)).1
      simp_arith only [B__law_drawn_set_T5, g1, i1]
      cases decide (Nat.gcd d P ∈ G) <;> simp_arith only [] <;> rfl
  obtain ⟨O, o1, o2, o3⟩ := risen (Q.filter fun o => decide (Nat.gcd o P ∈ G))
  have lF := List.length_filter_le (fun o => decide (Nat.gcd o P ∈ G)) Q
  have st := sortB_nat (ns := Q.filter fun o => decide (Nat.gcd o P ∈ G)) (ms := O) (by omega) o1 o2
  have mO : ∀ o ∈ O, o ∈ Q ∧ Nat.gcd o P ∈ G := fun o ho => by
    have := (o2 o).mp ho
    rw [List.mem_filter, decide_eq_true_eq] at this
    exact this
  refine ⟨P, G, O, S7, ⟨⟨cl, by omega, goods_few cl (by omega), o1, fun o ho => ⟨(oQ o (mO o ho).1).1, (mO o ho).2⟩, by omega⟩, hP, by omega, fun o ho => (oQ o (mO o ho).1).2⟩, ?_, ?_⟩
  · have ch := ((((((c1.trans c2).trans c3).trans c4).trans c5).trans c6).trans c7)
    have f13 : few [D.int 1, .int 1, .int 2, .int 3, .int 4, .int 6, .int 8, .int 9, .int 12, .int 18, .int 24, .int 30, .int 60] = some [D.int 1, .int 1, .int 2, .int 3, .int 4, .int 6, .int 8, .int 9, .int 12, .int 18, .int 24, .int 30, .int 60] := few_ok (by simp)
    have f6 : few [D.int 1, .int 2, .int 3, .int 4, .int 5, .int 6] = some [D.int 1, .int 2, .int 3, .int 4, .int 5, .int 6] := few_ok (by simp)
    have f1 : few [iN x] = some [iN x] := few_ok (by simp)
    have f3 : few [iN P, .tup (G.map iN), .tup (O.map iN)] = some [iN P, .tup (G.map iN), .tup (O.map iN)] := few_ok (by simp)
    have e1 : F3 [.ref i, .lst [D.int 1, .int 1, .int 2, .int 3, .int 4, .int 6, .int 8, .int 9, .int 12, .int 18, .int 24, .int 30, .int 60]] S = .ok (iN P) S1 := e1
    have e3 : compD (gName' 7) (B__law_drawn_set_T2 F1 F2 F3) (eVar 7) [some (.ref i), some (iN P), some (.lst ((divs P).map iN)), none, none, none, none, none, none, none, none] ((divs P).map iN) [] S1 = .ok (ms.map iN) S2 := e3
    have e5 : F1 [.ref i, .int 6] S3 = .ok (iN v) S4 := e5
    have rg : rangeD1 [.int 4] = some ((List.range 4).map iN) := range1 (n := 4) (by omega)
    have e8 : compD (gName' 8) tTrue (B__law_drawn_set_E1 F1 F2 F3) [some (.ref i), some (iN P), some (.lst ((divs P).map iN)), some (.lst (L.map iN)), some (.lst (G.map iN)), none, none, none, none, none, none] ((List.range 4).map iN) [] S4 = .ok (so.map iN) S5 := e8
    have e9 : F1 [.ref i, .int 5] S5 = .ok (iN w) S6 := e9
    have e10 : F1 [.ref i, .int 6] S6 = .ok (iN u) S7 := e10
    have cat2 : addD (.lst ((so.take w).map iN)) (.lst [D.int 1, .int 2, .int 3, .int 4, .int 5, .int 6]) = some (.lst ((so.take w ++ [1, 2, 3, 4, 5, 6]).map iN)) := catN (a := so.take w) (b := [1, 2, 3, 4, 5, 6]) (by simp; omega)
    have z : eqD (iN u) (.int 0) = some (.bl (decide (u = 0))) := by rw [(mod_zero (n := 1) (d := 1) (by omega)).2]; congr 2
    show doneR false S (B__law_drawn_set F1 F2 F3 [some (.ref i), none, none, none, none, none, none, none, none, none, none] S) = _
    by_cases q : u = 0
    · rw [decide_eq_true q] at z
      rw [if_pos q] at hQ
      rw [← hQ] at cat2
      simp_arith only [B__law_drawn_set, f13, e1, range_1 (show P ≤ 100000 by omega), e2, e3, e4, f1, e5, int_blN, rep_bl, cat1, e7, rg, e8, e9, take_nat, e10, z, f6, cat2, e11, st, f3]
      exact done_rt S S7 _ ch.len
    · rw [decide_eq_false q] at z
      rw [if_neg q] at hQ
      rw [← hQ] at cat2
      simp_arith only [B__law_drawn_set, f13, e1, range_1 (show P ≤ 100000 by omega), e2, e3, e4, f1, e5, int_blN, rep_bl, cat1, e7, rg, e8, e9, take_nat, ← hQ, e10, z, e11, st, f3]
      exact done_rt S S7 _ ch.len
  · exact ((((((c1.trans c2).trans c3).trans c4).trans c5).trans c6).trans c7).mono (by simp; omega)
/-! told with a greater period -/
def SpWrap (F : Fn) : Prop := ∀ (S : Sto) (i n P : Nat) (G O : List Nat), GTp S i n → n ≤ 90000 → Dw P G O → ∃ (P' : Nat) (G' : List Nat) (S' : Sto), Vm P' G' O ∧ P' ≤ 300 ∧ leasts G' = leasts G ∧ F [.ref i, formD P G O] S = .ok (formD P' G' O) S' ∧ GCh S S' i (n + 1)
theorem law_wrapped_ok {F1 F2 : Fn} (h1 : SpGcdB 390 F1) (h2 : SpPickG F2) : SpWrap (dBody false 5 (B__law_wrapped F1 F2)) := by
  intro S i n P G O t hn d
  obtain ⟨p0, p1, p2⟩ := wholes_ok P d.w
  obtain ⟨f, S1, hf, e1, c1⟩ := h2 S i n [1, 2, 3, 5] t (by omega) (by decide) (by decide)
  have f5 : 0 < f ∧ f ≤ 5 := by simp at hf; omega
  have pf : P * f ≤ 60 * 5 := Nat.mul_le_mul p1 f5.2
  obtain ⟨w1, w2, w3⟩ := d.v.clo.wrap f5.1
  refine ⟨P * f, _, S1, ⟨w1, by omega, goods_few w1 (by omega), d.v.ord, fun o ho => ⟨(d.v.out o ho).1, (w3 o).mpr (d.v.out o ho).2⟩, d.v.len⟩, by omega, w2, ?_, c1⟩
  have e1 : F2 [.ref i, .lst [D.int 1, .int 2, .int 3, .int 5]] S = .ok (iN f) S1 := e1
  have f4 : few [D.int 1, .int 2, .int 3, .int 5] = some [D.int 1, .int 2, .int 3, .int 5] := few_ok (by simp)
  have mu : mulD (iN P) (iN f) = some (iN (P * f)) := by rw [mulD_small (.inr (small_nat (by omega)))]; rfl
  have e2 : compD (gName' 4) (B__law_wrapped_T1 F1 F2) (eVar 4) [some (.ref i), some (formD P G O), some (iN (P * f)), none, none] ((List.range' 1 (P * f)).map iN) [] S1 = .ok ((divs (P * f)).map iN) S1 := parts_comp (by omega) fun d hd => by
    obtain ⟨m1, m2⟩ := mod_zero (n := P * f) hd
    simp_arith only [B__law_wrapped_T1, m1, m2]
    cases (P * f % d == 0) <;> simp_arith only [] <;> rfl
  have dl := divs_len (P * f)
  have e3 : compD (gName' 4) (B__law_wrapped_T2 F1 F2) (eVar 4) [some (.ref i), some (formD P G O), some (iN (P * f)), some (.lst ((divs (P * f)).map iN)), none] ((divs (P * f)).map iN) [] S1 = .ok (((divs (P * f)).filter fun d => decide (Nat.gcd d P ∈ G)).map iN) S1 :=
    filt_comp (fun d => decide (Nat.gcd d P ∈ G)) (divs (P * f)) (by omega) fun d hd => by
      have g1 := h1 d P S1 (by omega)
      have i1 := (in_nat (a := Nat.gcd d P) (.inr rfl : SeqN (.tup (G.map iN)) G)).1
      simp_arith only [B__law_wrapped_T2, formD, ixD_tup, atI_0, atI_1, g1, i1]
      cases decide (Nat.gcd d P ∈ G) <;> simp_arith only [] <;> rfl
  generalize ((divs (P * f)).filter fun d => decide (Nat.gcd d P ∈ G)) = G' at *
  have f3 : few [iN (P * f), .tup (G'.map iN), .tup (O.map iN)] = some [iN (P * f), .tup (G'.map iN), .tup (O.map iN)] := few_ok (by simp)
  have rg := range_1 (q := P * f) (by omega)
  generalize P * f = q at *
  show doneR false S (B__law_wrapped F1 F2 [some (.ref i), some (formD P G O), none, none, none] S) = _
  unfold formD at e2 e3 ⊢
  simp_arith only [B__law_wrapped, ixD_tup, atI_0, atI_1, atI_2, f4, e1, mu, rg, e2, e3, f3]
  exact done_rt S S1 _ c1.len
end SS
end
section
set_option Elab.async false
set_option linter.all false
set_option maxRecDepth 100000
set_option autoImplicit false
set_option maxHeartbeats 4000000
namespace SS
open PySem PySem.Spec PyProof.Rows L2 FL
local macro_rules
  | `(tactic| simp_arith only [$xs,*]) => `(tactic| simp (config := { implicitDefEqProofs := false }) only [tn_ok, oR_some, nx_ok, ev_var, ev_c, ev_bin, ev_kBin1, ev_kBin2, ev_un, ev_kUn, ev_asB, ev_kB, ev_asT, ev_kT, ev_tAnd2, ev_kAndT, ev_kAndF, ev_tOr2, ev_kOrT, ev_kOrF, ev_not, ev_kNot, ev_eAnd2, ev_kAndE, ev_kAndET, ev_kAndEF, ev_eOr2, ev_kOrE, ev_kOrET, ev_kOrEF, ev_eNot1, ev_kNotE, ev_kNotE2, ev_if, ev_kIfT, ev_kIfF, ev_aNil, ev_aCons, ev_kCons, ev_kCons2, ev_aStar, ev_kStar, ev_kStar2, ev_kStar3, ev_eTup, ev_kTup, ev_kTup2, ev_eLst, ev_kLst, ev_kLst2, ev_eNewL, ev_kNewL, ev_kNewL2, ev_newD, ev_callP, ev_kCallP, ev_call, ev_kCall, ev_kCall2, ev_oNone, ev_oSome, ev_kO, ev_kO2, ev_sl, ev_kSl, ev_kSl2, ev_kSl3, ev_sl3, ev_kT1, ev_kT2, ev_kT3, ev_kT4, ev_listRg, ev_kLR, ev_kLR2, ev_forM, ev_forMr, ev_forMl, ev_forMt, ev_forR, ev_meth, ev_kM, ev_kM2, ev_kM3, ev_meth0, ev_kM0, ev_chain, ev_kCh, ev_kCh2, ev_kCh3T, ev_kCh3F, ev_kCh4, ev_kLs, ev_kComp, ev_comp, ev_kRef, ev_compM, ev_kComp2, ev_comp2, ev_iSeq, ev_kIt, ev_iRange, ev_kRg, ev_enT, ev_enL, ev_iEnum, items_lst, items_tup, items_str, ev_true, ev_ret, ev_kRet, ev_expr, ev_kEx, ev_asg, ev_kAsg, ev_kNx, ev_seq, ev_kSeqN, ev_kSeqR, ev_kSeqB, ev_kSeqC, ev_ifS, ev_kIfST, ev_kIfSF, ev_for, ev_kFor, ev_next, ev_retN, ev_break, ev_cont, ev_par, ev_kPar, ev_par3, ev_kPar3, ev_gName, ev_gTup, ev_gsNil, ev_gsCons, ev_kGs, ev_gSub, ev_kSub, ev_kSub2, ev_kSub3, ev_kSub4, ev_mut, ev_kMu, ev_kMu2, ev_kMu3, ev_kMu4, ev_catM, ev_kCat, ev_kCat2, ev_catR, vw_non, vw_bl, vw_int, vw_str, vw_lst, vw_tup, vw_dct, vw_ref, vwO_lst, vwO_dct, tru_bl, tru_int, tru_lst, tru_tup, tru_non, add_int, add_lst, add_tup, add_str, sub_int, neg_int, gt_int, ge_int, lt_int, le_int, len_lst, len_tup, len_dct, len_str, int_int, tuple_lst, tuple_tup, list_lst, list_tup, sl_lst, sl_tup, is_non, isnt_non, non_bl, non_int, non_str, non_lst, non_tup, non_non, int_int?, ref_ref?, alt_tup, alt_lst, isi_int_non, isi_int_bl, isi_int_int, isi_int_str, isi_int_lst, isi_int_tup, isi_bool_non, isi_bool_bl, isi_bool_int, isi_bool_str, isi_bool_lst, isi_bool_tup, isi_str_non, isi_str_bl, isi_str_int, isi_str_str, isi_str_lst, isi_str_tup, isi_tuple_non, isi_tuple_bl, isi_tuple_int, isi_tuple_str, isi_tuple_lst, isi_tuple_tup, isi_list_non, isi_list_bl, isi_list_int, isi_list_str, isi_list_lst, isi_list_tup, isi_dict_non, isi_dict_bl, isi_dict_int, isi_dict_str, isi_dict_lst, isi_dict_tup, tyIn_lst2, tyD_lst, tyIn_tup2, tyD_tup, tyIn_str, tyD_str, tyIn_dct, tyD_dct, ev_cStep, ev_kC, ev_kC2T, ev_kC2F, ev_kSome, ev_cStep2, ev_kD, ev_kD2T, ev_kD2F, ev_kD3, ev_lStep, ev_kL, List.getElem?_cons_zero, List.getElem?_cons_succ, Option.join_some, Option.bind_some, Option.map_some, wipeE, List.set_cons_zero, List.set_cons_succ, List.length_cons, List.length_nil, List.map_cons, List.map_nil, gAll, gDef, List.cons_append, List.nil_append, if_true, if_false, Bool.not_true, Bool.not_false, Nat.zero_add, Nat.reduceAdd, Nat.reduceLeDiff, and_true, and_self, true_and, reduceIte, Bool.false_eq_true, $xs,*])
theorem mut_ext {S : Sto} {n : Nat} {xs zs : List D} (h : S[n]? = some (.lst xs)) (hl : xs.length + zs.length ≤ 1000000) : mutAt "list" extendFD n [.lst zs] S = .ok .non (S.set n (.lst (xs ++ zs))) := by
  unfold mutAt
  rw [h]
  simp only [tyOb, if_true, extendFD, hl]
/-! ## what is told -/
def insL (P : Nat) (G O : List Nat) : List Nat := (List.range' 1 (topN O + 2 * P + 1)).filter (hasB P G O)
def endD (G O : List Nat) : D := if 1 ∈ G then iN (topN O + 1) else .non
def toldL (P : Nat) (G O : List Nat) : List D := [optN (insL P G O).head?, optN ((List.range 14).find? fun e => hasB P G O (2 ^ e)), endD G O, .lst (((insL P G O).take 9).map iN)]
theorem nb_nats (L : List Nat) : nb (.lst (L.map iN)) = true := (pn_nats L).2.1
theorem nb_opt (o : Option Nat) : nb (optN o) = true := by cases o <;> rfl
theorem nb_end (G O : List Nat) : nb (endD G O) = true := by unfold endD; split <;> rfl
theorem nb_told (P : Nat) (G O : List Nat) : nb (.lst (toldL P G O)) = true := by
  unfold toldL
  simp only [nb, nbs, nb_opt, nb_end, Bool.and_true]
  have := nb_nats ((insL P G O).take 9)
  simp only [nb] at this
  rw [this]
  rfl
theorem opt_hd (L : List Nat) : ∃ b, neD (.lst (L.map iN)) (.lst []) = some (.bl b) ∧ ((b = true ∧ ixD (.lst (L.map iN)) (.int 0) = some (optN L.head?)) ∨ (b = false ∧ optN L.head? = .non)) := by
  refine ⟨!L.isEmpty, ne_nilN L, ?_⟩
  cases L with
  | nil => exact .inr ⟨rfl, rfl⟩
  | cons a L => exact .inl ⟨rfl, by rw [ixD_lst, List.map_cons, atI_0]; rfl⟩
def SpToldL (F : Fn) : Prop := ∀ (P : Nat) (G O : List Nat) (S : Sto), Dw P G O → F [formD P G O] S = .ok (.lst (toldL P G O)) S
theorem max_top {O : List Nat} (h : O.Pairwise (· < ·)) : maxD [.lst (.int 0 :: O.map iN)] = some (iN (topN O)) := by
  have aq : ∀ xs : List Int, allQ D.int? (xs.map D.int) = some xs := by
    intro xs
    induction xs with
    | nil => rfl
    | cons x xs ih => rw [List.map_cons]; unfold allQ; rw [ih]; rfl
  have e : (D.int 0 :: O.map iN) = ((0 : Int) :: O.map fun n : Nat => (n : Int)).map D.int := by rw [List.map_cons, List.map_map]; rfl
  unfold maxD bestD
  rw [e]
  simp only [aq, Option.bind_some, bestL_top h, Option.map_some]
theorem told_loop {F1 : Fn} (h1 : SpInL F1) {P : Nat} {G O : List Nat} (hP : P ≤ 390) {S : Sto} {x1 x2 : Option D} : ∃ y5, loopD (gName' 5) (B__law_told_1_L1 F1) ((List.range 14).map iN) [some (formD P G O), x1, x2, some (.ref S.length), some (iN 1), none, none, none] (S ++ [.lst []]) =
    .ok (.nx [some (formD P G O), x1, x2, some (.ref S.length), some (iN (2 ^ 14)), y5, none, none]) (S ++ [.lst (((List.range 14).filter fun e => hasB P G O (2 ^ e)).map iN)]) := by
  obtain ⟨r', S', lo, y5, rfl, rfl⟩ := loopD_range (b := gName' 5) (body := B__law_told_1_L1 F1)
    (fun m r S' => ∃ y5, r = [some (formD P G O), x1, x2, some (.ref S.length), some (iN (2 ^ m)), y5, none, none] ∧ S' = S ++ [.lst (((List.range m).filter fun e => hasB P G O (2 ^ e)).map iN)]) 14
    [some (formD P G O), x1, x2, some (.ref S.length), some (iN 1), none, none, none] (S ++ [.lst []]) ⟨none, rfl, rfl⟩ (by
    intro m r S' hm ⟨y5, hr, hS⟩
    subst hr hS
    have e1 := h1 P G O (2 ^ m) (S ++ [.lst (((List.range m).filter fun e => hasB P G O (2 ^ e)).map iN)]) hP
    rw [decide_eq_true (Nat.two_pow_pos m), Bool.true_and] at e1
    have mu : mulD (iN (2 ^ m)) (.int 2) = some (iN (2 ^ (m + 1))) := by rw [mulD_small (.inr small2), Nat.pow_succ]; rfl
    have f1 : few [iN m] = some [iN m] := few_ok (by simp)
    have lf : ((List.range m).filter fun e => hasB P G O (2 ^ e)).length ≤ 14 := Nat.le_trans (List.length_filter_le ..) (by rw [List.length_range]; omega)
    have ex : ∀ zs : List D, zs.length ≤ 1 → mutAt "list" extendFD S.length [.lst zs] (S ++ [.lst (((List.range m).filter fun e => hasB P G O (2 ^ e)).map iN)]) = .ok .non (S ++ [.lst (((List.range m).filter fun e => hasB P G O (2 ^ e)).map iN ++ zs)]) := fun zs hz => by
      rw [mut_ext (app_get ..) (by rw [List.length_map]; omega), app_set]
    cases q : hasB P G O (2 ^ m) with
    | true =>
      rw [q] at e1
      have e : (((List.range (m + 1)).filter fun e => hasB P G O (2 ^ e)).map iN) = ((List.range m).filter fun e => hasB P G O (2 ^ e)).map iN ++ [iN m] := by
        rw [List.range_succ, List.filter_append, List.filter_cons_of_pos (by simpa using q), List.map_append]
        rfl
      rw [e]
      refine ⟨_, _, ?_, some (iN m), rfl, rfl⟩
      have x1 := ex [iN m] (by simp)
      unfold formD at e1 ⊢
      generalize ((List.range m).filter fun e => hasB P G O (2 ^ e)).map iN = xs at *
      simp_arith only [B__law_told_1_L1, app_get, ob_list, e1, f1, x1, mu]
    | false =>
      rw [q] at e1
      have e : (((List.range (m + 1)).filter fun e => hasB P G O (2 ^ e)).map iN) = ((List.range m).filter fun e => hasB P G O (2 ^ e)).map iN ++ [] := by
        rw [List.range_succ, List.filter_append, List.filter_cons_of_neg (by simpa using q), List.map_append]
        rfl
      rw [e]
      refine ⟨_, _, ?_, some (iN m), rfl, rfl⟩
      have x1 := ex [] (by simp)
      unfold formD at e1 ⊢
      generalize ((List.range m).filter fun e => hasB P G O (2 ^ e)).map iN = xs at *
      simp_arith only [B__law_told_1_L1, app_get, ob_list, e1, few0, x1, mu])
  exact ⟨y5, lo⟩
theorem law_told_ok {F1 : Fn} (h1 : SpInL F1) : SpToldL (dBody false 8 (B__law_told_1 F1)) := by
  intro P G O S d
  obtain ⟨p0, p1, p2⟩ := wholes_ok P d.w
  have tO : topN O ≤ 300 := by
    rcases topN_mem (O := O) with q | q
    · omega
    · exact d.ob _ q
  have lo := d.lo
  have f1 : few [D.int 0] = some [D.int 0] := few_ok (by simp)
  have ad : addD (.lst [.int 0]) (.lst (O.map iN)) = some (.lst (.int 0 :: O.map iN)) := by
    rw [add_lst, cap_ok (by simp; omega)]
    rfl
  have mx := max_top d.v.ord
  have li : listD [.tup (O.map iN)] = some (.lst (O.map iN)) := rfl
  have mu : mulD (.int 2) (iN P) = some (iN (2 * P)) := by rw [mulD_small (.inl small2)]; rfl
  have rg : rangeD2 [.int 1, .int (((topN O : Nat) : Int) + ((2 * P : Nat) : Int) + 2)] = some ((List.range' 1 (topN O + 2 * P + 1)).map iN) := by
    rw [show ((topN O : Nat) : Int) + ((2 * P : Nat) : Int) + 2 = ((topN O + 2 * P + 1 : Nat) : Int) + 1 by omega]
    exact range_1 (by omega)
  have e1 : compD (gName' 7) (B__law_told_1_T1 F1) (eVar 7) [some (formD P G O), some (.int (((topN O : Nat) : Int) + ((2 * P : Nat) : Int) + 2)), none, none, none, none, none, none] ((List.range' 1 (topN O + 2 * P + 1)).map iN) [] S = .ok ((insL P G O).map iN) S :=
    filt_comp (hasB P G O) (List.range' 1 (topN O + 2 * P + 1)) (by simp; omega) fun n hn => by
      rw [List.mem_range'_1] at hn
      have e := h1 P G O n S (by omega)
      rw [decide_eq_true (show 0 < n by omega), Bool.true_and] at e
      unfold formD at e ⊢
      simp_arith only [B__law_told_1_T1, e]
      cases hasB P G O n <;> simp_arith only [] <;> rfl
  obtain ⟨y5, e2⟩ := told_loop h1 (P := P) (G := G) (O := O) (by omega) (S := S) (x1 := some (.int (((topN O : Nat) : Int) + ((2 * P : Nat) : Int) + 2))) (x2 := some (.lst ((insL P G O).map iN)))
  have e2 : loopD (gName' 5) (B__law_told_1_L1 F1) ((List.range 14).map iN) [some (formD P G O), some (.int (((topN O : Nat) : Int) + ((2 * P : Nat) : Int) + 2)), some (.lst ((insL P G O).map iN)), some (.ref S.length), some (.int 1), none, none, none] (S ++ [.lst []]) = _ := e2
  have rg2 : rangeD1 [.int 14] = some ((List.range 14).map iN) := range1 (n := 14) (by omega)
  have i1 : inD (.int 1) (.tup (G.map iN)) = some (.bl (decide (1 ∈ G))) := (in_nat (a := 1) (.inr rfl : SeqN (.tup (G.map iN)) G)).1
  have tk := take_nat (insL P G O) 9
  have tk : cutL ((insL P G O).map iN) none (some 9) = ((insL P G O).take 9).map iN := tk
  have nt := nb_told P G O
  unfold toldL at nt ⊢
  obtain ⟨T, hT⟩ : ∃ T, T = ((insL P G O).take 9).map iN := ⟨_, rfl⟩
  rw [← hT] at tk nt ⊢
  have hp : (List.range 14).find? (fun e => hasB P G O (2 ^ e)) = ((List.range 14).filter fun e => hasB P G O (2 ^ e)).head? := List.head?_filter.symm
  rw [hp] at nt ⊢
  generalize ((List.range 14).filter fun e => hasB P G O (2 ^ e)) = pw at *
  generalize insL P G O = ins at *
  have f4 : ∀ a b c d : D, few [a, b, c, d] = some [a, b, c, d] := fun a b c d => few_ok (by simp)
  obtain ⟨bi, n1, ci⟩ := opt_hd ins
  obtain ⟨bp, n2, cp⟩ := opt_hd pw
  have gp : (S ++ [Ob.lst (pw.map iN)])[S.length]? = some (.lst (pw.map iN)) := app_get ..
  generalize optN ins.head? = oi at *
  generalize optN pw.head? = op at *
  generalize ins.map iN = ID at *
  generalize pw.map iN = PD at *
  have fin : B__law_told_1 F1 [some (formD P G O), none, none, none, none, none, none, none] S = .ok (.rt (.lst [oi, op, endD G O, .lst T])) (S ++ [.lst PD]) := by
    unfold endD
    unfold formD at e1 e2 ⊢
    have sc : ((topN O : Nat) : Int) + 1 = ((topN O + 1 : Nat) : Int) := by omega
    by_cases g1 : 1 ∈ G
    · rw [decide_eq_true g1] at i1
      rw [if_pos g1]
      rcases ci with ⟨rfl, h1⟩ | ⟨rfl, h1⟩ <;> rcases cp with ⟨rfl, h2⟩ | ⟨rfl, h2⟩
      · simp_arith only [B__law_told_1, ixD_tup, atI_0, atI_1, atI_2, f1, li, ad, mx, mu, rg, e1, few0, rg2, e2, i1, n1, h1, n2, h2, gp, f4, tk, sc]
      · rw [h2]
        simp_arith only [B__law_told_1, ixD_tup, atI_0, atI_1, atI_2, f1, li, ad, mx, mu, rg, e1, few0, rg2, e2, i1, n1, h1, n2, gp, f4, tk, sc]
      · rw [h1]
        simp_arith only [B__law_told_1, ixD_tup, atI_0, atI_1, atI_2, f1, li, ad, mx, mu, rg, e1, few0, rg2, e2, i1, n1, n2, h2, gp, f4, tk, sc]
      · rw [h1, h2]
        simp_arith only [B__law_told_1, ixD_tup, atI_0, atI_1, atI_2, f1, li, ad, mx, mu, rg, e1, few0, rg2, e2, i1, n1, n2, gp, f4, tk, sc]
    · rw [decide_eq_false g1] at i1
      rw [if_neg g1]
      rcases ci with ⟨rfl, h1⟩ | ⟨rfl, h1⟩ <;> rcases cp with ⟨rfl, h2⟩ | ⟨rfl, h2⟩
      · simp_arith only [B__law_told_1, ixD_tup, atI_0, atI_1, atI_2, f1, li, ad, mx, mu, rg, e1, few0, rg2, e2, i1, n1, h1, n2, h2, gp, f4, tk]
      · rw [h2]
        simp_arith only [B__law_told_1, ixD_tup, atI_0, atI_1, atI_2, f1, li, ad, mx, mu, rg, e1, few0, rg2, e2, i1, n1, h1, n2, gp, f4, tk]
      · rw [h1]
        simp_arith only [B__law_told_1, ixD_tup, atI_0, atI_1, atI_2, f1, li, ad, mx, mu, rg, e1, few0, rg2, e2, i1, n1, n2, h2, gp, f4, tk]
      · rw [h1, h2]
        simp_arith only [B__law_told_1, ixD_tup, atI_0, atI_1, atI_2, f1, li, ad, mx, mu, rg, e1, few0, rg2, e2, i1, n1, n2, gp, f4, tk]
  show doneR false S (B__law_told_1 F1 [some (formD P G O), none, none, none, none, none, none, none] S) = _
  rw [fin]
  exact cut_app S _ _ (nb_lt _ _ nt)
end SS
end
section
set_option Elab.async false
set_option linter.all false
set_option maxRecDepth 100000
set_option autoImplicit false
set_option maxHeartbeats 4000000
namespace SS
open PySem PySem.Spec PyProof.Rows L2 FL
local macro_rules
  | `(tactic| simp_arith only [$xs,*]) => `(tactic| simp (config := { implicitDefEqProofs := false }) only [tn_ok, oR_some, nx_ok, ev_var, ev_c, ev_bin, ev_kBin1, ev_kBin2, ev_un, ev_kUn, ev_asB, ev_kB, ev_asT, ev_kT, ev_tAnd2, ev_kAndT, ev_kAndF, ev_tOr2, ev_kOrT, ev_kOrF, ev_not, ev_kNot, ev_eAnd2, ev_kAndE, ev_kAndET, ev_kAndEF, ev_eOr2, ev_kOrE, ev_kOrET, ev_kOrEF, ev_eNot1, ev_kNotE, ev_kNotE2, ev_if, ev_kIfT, ev_kIfF, ev_aNil, ev_aCons, ev_kCons, ev_kCons2, ev_aStar, ev_kStar, ev_kStar2, ev_kStar3, ev_eTup, ev_kTup, ev_kTup2, ev_eLst, ev_kLst, ev_kLst2, ev_eNewL, ev_kNewL, ev_kNewL2, ev_newD, ev_callP, ev_kCallP, ev_call, ev_kCall, ev_kCall2, ev_oNone, ev_oSome, ev_kO, ev_kO2, ev_sl, ev_kSl, ev_kSl2, ev_kSl3, ev_sl3, ev_kT1, ev_kT2, ev_kT3, ev_kT4, ev_listRg, ev_kLR, ev_kLR2, ev_forM, ev_forMr, ev_forMl, ev_forMt, ev_forR, ev_meth, ev_kM, ev_kM2, ev_kM3, ev_meth0, ev_kM0, ev_chain, ev_kCh, ev_kCh2, ev_kCh3T, ev_kCh3F, ev_kCh4, ev_kLs, ev_kComp, ev_comp, ev_kRef, ev_compM, ev_kComp2, ev_comp2, ev_iSeq, ev_kIt, ev_iRange, ev_kRg, ev_enT, ev_enL, ev_iEnum, items_lst, items_tup, items_str, ev_true, ev_ret, ev_kRet, ev_expr, ev_kEx, ev_asg, ev_kAsg, ev_kNx, ev_seq, ev_kSeqN, ev_kSeqR, ev_kSeqB, ev_kSeqC, ev_ifS, ev_kIfST, ev_kIfSF, ev_for, ev_kFor, ev_next, ev_retN, ev_break, ev_cont, ev_par, ev_kPar, ev_par3, ev_kPar3, ev_gName, ev_gTup, ev_gsNil, ev_gsCons, ev_kGs, ev_gSub, ev_kSub, ev_kSub2, ev_kSub3, ev_kSub4, ev_mut, ev_kMu, ev_kMu2, ev_kMu3, ev_kMu4, ev_catM, ev_kCat, ev_kCat2, ev_catR, vw_non, vw_bl, vw_int, vw_str, vw_lst, vw_tup, vw_dct, vw_ref, vwO_lst, vwO_dct, tru_bl, tru_int, tru_lst, tru_tup, tru_non, add_int, add_lst, add_tup, add_str, sub_int, neg_int, gt_int, ge_int, lt_int, le_int, len_lst, len_tup, len_dct, len_str, int_int, tuple_lst, tuple_tup, list_lst, list_tup, sl_lst, sl_tup, is_non, isnt_non, non_bl, non_int, non_str, non_lst, non_tup, non_non, int_int?, ref_ref?, alt_tup, alt_lst, isi_int_non, isi_int_bl, isi_int_int, isi_int_str, isi_int_lst, isi_int_tup, isi_bool_non, isi_bool_bl, isi_bool_int, isi_bool_str, isi_bool_lst, isi_bool_tup, isi_str_non, isi_str_bl, isi_str_int, isi_str_str, isi_str_lst, isi_str_tup, isi_tuple_non, isi_tuple_bl, isi_tuple_int, isi_tuple_str, isi_tuple_lst, isi_tuple_tup, isi_list_non, isi_list_bl, isi_list_int, isi_list_str, isi_list_lst, isi_list_tup, isi_dict_non, isi_dict_bl, isi_dict_int, isi_dict_str, isi_dict_lst, isi_dict_tup, tyIn_lst2, tyD_lst, tyIn_tup2, tyD_tup, tyIn_str, tyD_str, tyIn_dct, tyD_dct, ev_cStep, ev_kC, ev_kC2T, ev_kC2F, ev_kSome, ev_cStep2, ev_kD, ev_kD2T, ev_kD2F, ev_kD3, ev_lStep, ev_kL, List.getElem?_cons_zero, List.getElem?_cons_succ, Option.join_some, Option.bind_some, Option.map_some, wipeE, List.set_cons_zero, List.set_cons_succ, List.length_cons, List.length_nil, List.map_cons, List.map_nil, gAll, gDef, List.cons_append, List.nil_append, if_true, if_false, Bool.not_true, Bool.not_false, Nat.zero_add, Nat.reduceAdd, Nat.reduceLeDiff, and_true, and_self, true_and, reduceIte, Bool.false_eq_true, $xs,*])
/-! ## other sets -/
noncomputable def otherT (F__law_gcd F__law_in : List D → M D) : FSx := (sSeq (sIf (asB (eBin neD (eVar 4) (eTup aNil))) (sExpr (eMut ["list"] appendD (eVar 6) (aCons (eTup (aCons (eVar 2) (aCons (eVar 3) (aCons (eSl (eVar 4) (oSome (eC (.int 1))) oNone) aNil)))) aNil))) sNext) (sSeq (sIf (tAnd2 (asB (eBin gtD (eCallP lenD (aCons (eVar 3) aNil)) (eC (.int 0)))) (asB (eBin ltD (eBin ixD (eVar 3) (eC (.int 0))) (eVar 2)))) (sSeq (sAsg (eSl (eVar 3) (oSome (eC (.int 1))) oNone) (gName' 7)) (sExpr (eMut ["list"] appendD (eVar 6) (aCons (eTup (aCons (eVar 2) (aCons (eVar 7) (aCons (eCallP tupleD (aCons (eComp [8] (iSeqD (eVar 4)) (gName' 8) (B__law_other_T2 F__law_gcd F__law_in) (eVar 8)) aNil)) aNil)))) aNil)))) sNext) (sRet (eVar 6))))
theorem otherT_eq (F__law_gcd F__law_in : List D → M D) : B__law_other F__law_gcd F__law_in = (sSeq (sAsg (eVar 1) (gTup' 3 (gsCons (gName' 2) (gsCons (gName' 3) (gsCons (gName' 4) gsNil))))) (sSeq (sAsg (eSl (eComp [8] (iRange rangeD2 (aCons (eC (.int 1)) (aCons (eC (.int 400)) aNil))) (gName' 8) (B__law_other_T1 F__law_gcd F__law_in) (eVar 8)) oNone (oSome (eC (.int 1)))) (gName' 5)) (sSeq (sAsg (eIf (asB (eBin neD (eVar 5) (eLst aNil))) (eNewL (aCons (eTup (aCons (eVar 2) (aCons (eVar 3) (aCons (eCallP tupleD (aCons (eCallP sortIntD (aCons (eBin addD (eCallP listD (aCons (eVar 4) aNil)) (eVar 5)) aNil)) aNil)) aNil)))) aNil)) (eNewL aNil)) (gName' 6)) (otherT F__law_gcd F__law_in)))) := rfl
/-- a valid set that is another one -/
structure Ot (P : Nat) (G O : List Nat) (f : List Nat × List Nat) : Prop where
  v : Vm P f.1 f.2
  ne : ¬ (late f.1 = late G ∧ f.2 = O)
def foD (P : Nat) (f : List Nat × List Nat) : D := formD P f.1 f.2
theorem sortN {L M : List Nat} (nd : L.Nodup) (h1 : M.Pairwise (· < ·)) (h2 : ∀ a, a ∈ M ↔ a ∈ L) : sortIntD [.lst (L.map iN)] = some (.lst (M.map iN)) := by
  have aq : ∀ xs : List Int, allQ D.int? (xs.map D.int) = some xs := by
    intro xs
    induction xs with
    | nil => rfl
    | cons x xs ih => rw [List.map_cons]; unfold allQ; rw [ih]; rfl
  have e0 : L.map iN = (L.map fun n : Nat => (n : Int)).map D.int := by rw [List.map_map]; rfl
  have e1 : M.map iN = (M.map fun n : Nat => (n : Int)).map D.int := by rw [List.map_map]; rfl
  have ndM : M.Nodup := h1.imp fun {a b} (q : a < b) => by omega
  have pm : M.Perm L := (List.perm_ext_iff_of_nodup ndM nd).mpr h2
  have e2 : sortI (L.map fun n : Nat => (n : Int)) = M.map fun n : Nat => (n : Int) :=
    le_uniq ((sortI_perm _).trans (pm.symm.map _)) (sortI_le _) (List.pairwise_map.mpr (h1.imp fun {a b} h => by omega))
  rw [e0, e1]
  simp only [sortIntD, one, D.lst?, Option.bind_some, aq, Option.map_some, e2]
theorem dropN1 (L : List Nat) : cutL (L.map iN) (some 1) none = (L.drop 1).map iN := by
  have := cut_drop' (L.map iN) 1
  rw [← List.map_drop] at this
  exact this
theorem other_tail {F1 F2 : Fn} (h1 : SpGcdB 390 F1) {P : Nat} {G O : List Nat} (v : Vm P G O) (hP : P ≤ 390) {S : Sto} {x0 x1 x5 : Option D} {fs : List (List Nat × List Nat)} (hf : ∀ f ∈ fs, Ot P G O f) (lf : fs.length ≤ 10) :
    ∃ gs : List (List Nat × List Nat), (∀ f ∈ gs, Ot P G O f) ∧ gs.length ≤ 12 ∧ otherT F1 F2 [x0, x1, some (iN P), some (.tup (G.map iN)), some (.tup (O.map iN)), x5, some (.ref S.length), none, none] (S ++ [.lst (fs.map (foD P))]) = .ok (.rt (.ref S.length)) (S ++ [.lst (gs.map (foD P))]) := by
  have gL : ∀ xs : List D, (S ++ [Ob.lst xs])[S.length]? = some (.lst xs) := fun xs => app_get ..
  have ap : ∀ (xs : List D) (d : D), xs.length ≤ 20 → mutAt "list" appendD S.length [d] (S ++ [.lst xs]) = .ok .non (S ++ [.lst (xs ++ [d])]) := fun xs d hl => by rw [mut_app (app_get ..) (by omega), app_set]
  have f3 : ∀ a b c : D, few [a, b, c] = some [a, b, c] := fun a b c => few_ok (by simp)
  -- the first exception gone
  obtain ⟨fs1, hf1, lf1, st1⟩ : ∃ fs1, (∀ f ∈ fs1, Ot P G O f) ∧ fs1.length ≤ 11 ∧ (fs1 = if O.isEmpty = true then fs else fs ++ [(G, O.drop 1)]) := by
    cases hO : O with
    | nil => exact ⟨fs, by rw [← hO]; exact hf, by omega, rfl⟩
    | cons o O1 =>
      refine ⟨fs ++ [(G, O1)], fun f h => ?_, by simp; omega, rfl⟩
      rcases List.mem_append.mp h with q | q
      · rw [← hO]; exact hf f q
      · rw [List.mem_singleton.mp q]
        have vo := v
        rw [hO] at vo
        refine ⟨⟨vo.clo, vo.le, vo.few, (List.pairwise_cons.mp vo.ord).2, fun x hx => vo.out x (List.mem_cons_of_mem _ hx), by have := vo.len; simp at this; show O1.length ≤ 1000; omega⟩, fun z => ?_⟩
        have := congrArg List.length z.2
        simp at this
  -- the least one gone
  obtain ⟨gs, hg, lg, st2⟩ : ∃ gs, (∀ f ∈ gs, Ot P G O f) ∧ gs.length ≤ 12 ∧ (gs = if (decide (0 < G.length) && decide (G.headD 0 < P)) = true then fs1 ++ [(G.drop 1, O.filter fun o => decide (Nat.gcd o P ∈ G.drop 1))] else fs1) := by
    cases hG : G with
    | nil => exact ⟨fs1, by rw [← hG]; exact hf1, by omega, rfl⟩
    | cons g G1 =>
      by_cases q : g < P
      · refine ⟨fs1 ++ [(G1, O.filter fun o => decide (Nat.gcd o P ∈ G1))], fun f h => ?_, by simp; omega, ?_⟩
        · rcases List.mem_append.mp h with w | w
          · rw [← hG]; exact hf1 f w
          · rw [List.mem_singleton.mp w]
            have vg := v
            rw [hG] at vg
            refine ⟨⟨vg.clo.tail, vg.le, by have := vg.few; simp at this; show G1.length ≤ 60; omega, vg.ord.sublist List.filter_sublist, fun x hx => ?_, Nat.le_trans (List.length_filter_le ..) vg.len⟩, fun z => vg.clo.tail_ne z.1⟩
            have hx := List.mem_filter.mp hx
            exact ⟨(vg.out x hx.1).1, of_decide_eq_true hx.2⟩
        · rw [if_pos (by simpa using q)]
          rfl
      · refine ⟨fs1, by rw [← hG]; exact hf1, by omega, ?_⟩
        rw [if_neg (by simpa using q)]
  refine ⟨gs, hg, lg, ?_⟩
  have neO := ne_nilNT O
  have dO := dropN1 O
  have dG := dropN1 G
  have e3 : ∀ T : Sto, compD (gName' 8) (B__law_other_T2 F1 F2) (eVar 8) [x0, x1, some (iN P), some (.tup (G.map iN)), some (.tup (O.map iN)), x5, some (.ref S.length), some (.tup ((G.drop 1).map iN)), none] (O.map iN) [] T = .ok ((O.filter fun o => decide (Nat.gcd o P ∈ G.drop 1)).map iN) T := fun T =>
    filt_comp (fun o => decide (Nat.gcd o P ∈ G.drop 1)) O (by have := v.len; omega) fun d hd => by
      have g1 := h1 d P T (by omega)
      have i1 := (in_nat (a := Nat.gcd d P) (.inr rfl : SeqN (.tup ((G.drop 1).map iN)) (G.drop 1))).1
      simp_arith only [B__law_other_T2, g1, i1]
      cases decide (Nat.gcd d P ∈ G.drop 1) <;> simp_arith only [] <;> rfl
  have mid : ∀ (k : FL.Env → Sto → R Fl) , True := fun _ => trivial
  have m1 : ∀ (hs : List (List Nat × List Nat)), hs.map (foD P) ++ [.tup [iN P, .tup (G.map iN), .tup ((O.drop 1).map iN)]] = (hs ++ [(G, O.drop 1)]).map (foD P) := fun hs => by rw [List.map_append]; rfl
  have m2 : ∀ (hs : List (List Nat × List Nat)), hs.map (foD P) ++ [.tup [iN P, .tup ((G.drop 1).map iN), .tup ((O.filter fun o => decide (Nat.gcd o P ∈ G.drop 1)).map iN)]] = (hs ++ [(G.drop 1, O.filter fun o => decide (Nat.gcd o P ∈ G.drop 1))]).map (foD P) := fun hs => by rw [List.map_append]; rfl
  have a1 := ap (fs.map (foD P)) (.tup [iN P, .tup (G.map iN), .tup ((O.drop 1).map iN)]) (by rw [List.length_map]; omega)
  have a2 := ap (fs1.map (foD P)) (.tup [iN P, .tup ((G.drop 1).map iN), .tup ((O.filter fun o => decide (Nat.gcd o P ∈ G.drop 1)).map iN)]) (by rw [List.length_map]; omega)
  rw [m1] at a1
  rw [m2] at a2
  -- the test of the second
  have ts : (∃ g, (G.map iN).length = G.length ∧ 0 < G.length ∧ ixD (.tup (G.map iN)) (.int 0) = some (iN g) ∧ G.headD 0 = g) ∨ G.length = 0 := by
    cases G with
    | nil => exact .inr rfl
    | cons g G1 => exact .inl ⟨g, by simp, by simp, by rw [ixD_tup, List.map_cons, atI_0], rfl⟩
  generalize O.filter (fun o => decide (Nat.gcd o P ∈ G.drop 1)) = O2 at *
  generalize (O.drop 1).map iN = O1d at *
  generalize (G.drop 1).map iN = G1d at *
  have cl : ∀ (xs : List D) (ys : List (List Nat × List Nat)), True := fun _ _ => trivial
  cases hO : O.isEmpty with
  | true =>
    rw [hO] at neO st1
    rw [if_pos rfl] at st1
    subst st1
    rcases ts with ⟨g, t1, t2, t3, t4⟩ | t0
    · have d1 : decide ((0 : Int) < (((G.map iN).length : Nat) : Int)) = true := by rw [decide_eq_true_eq, t1]; omega
      rw [decide_eq_true t2, Bool.true_and, t4] at st2
      by_cases q : g < P
      · rw [if_pos (by simpa using q)] at st2
        rw [← st2] at a2
        simp_arith only [otherT, few0, neO, d1, t3, decide_eq_true (show (g : Int) < (P : Int) by omega), dG, e3, f3, gL, ob_list, a2]
      · rw [if_neg (by simpa using q)] at st2
        subst st2
        simp_arith only [otherT, few0, neO, d1, t3, decide_eq_false (show ¬ (g : Int) < (P : Int) by omega)]
    · have d1 : decide ((0 : Int) < (((G.map iN).length : Nat) : Int)) = false := by rw [decide_eq_false_iff_not, List.length_map]; omega
      rw [t0] at st2
      have st2 : gs = fs1 := st2
      subst st2
      simp_arith only [otherT, few0, neO, d1]
  | false =>
    rw [hO] at neO st1
    rw [if_neg (by simp)] at st1
    rw [← st1] at a1
    rcases ts with ⟨g, t1, t2, t3, t4⟩ | t0
    · have d1 : decide ((0 : Int) < (((G.map iN).length : Nat) : Int)) = true := by rw [decide_eq_true_eq, t1]; omega
      rw [decide_eq_true t2, Bool.true_and, t4] at st2
      by_cases q : g < P
      · rw [if_pos (by simpa using q)] at st2
        rw [← st2] at a2
        simp_arith only [otherT, few0, neO, dO, a1, d1, t3, decide_eq_true (show (g : Int) < (P : Int) by omega), dG, e3, f3, gL, ob_list, a2]
      · rw [if_neg (by simpa using q)] at st2
        subst st2
        simp_arith only [otherT, few0, neO, dO, f3, gL, ob_list, a1, d1, t3, decide_eq_false (show ¬ (g : Int) < (P : Int) by omega)]
    · have d1 : decide ((0 : Int) < (((G.map iN).length : Nat) : Int)) = false := by rw [decide_eq_false_iff_not, List.length_map]; omega
      rw [t0] at st2
      have st2 : gs = fs1 := st2
      subst st2
      simp_arith only [otherT, few0, neO, dO, f3, gL, ob_list, a1, d1]
def SpOther (F : Fn) : Prop := ∀ (P : Nat) (G O : List Nat) (x : D) (S : Sto), Dw P G O → ∃ gs : List (List Nat × List Nat), (∀ f ∈ gs, Ot P G O f) ∧ gs.length ≤ 12 ∧ F [x, formD P G O] S = .ok (.lst (gs.map (foD P))) S
theorem nbs_fo (P : Nat) (gs : List (List Nat × List Nat)) : nbs (gs.map (foD P)) = true := (nbs_iff _).mpr fun d hd => by
  obtain ⟨f, _, rfl⟩ := List.mem_map.mp hd
  exact (pk_form _ _ _).1
theorem law_other_ok {F1 F2 : Fn} (h1 : SpGcdB 390 F1) (h2 : SpInL F2) : SpOther (dBody false 9 (B__law_other F1 F2)) := by
  intro P G O x S d
  obtain ⟨p0, p1, p2⟩ := wholes_ok P d.w
  have v := d.v
  have lo := d.lo
  have rg : rangeD2 [.int 1, .int 400] = some ((List.range' 1 399).map iN) := range_1 (q := 399) (by omega)
  have e1 : compD (gName' 8) (B__law_other_T1 F1 F2) (eVar 8) [some x, some (formD P G O), some (iN P), some (.tup (G.map iN)), some (.tup (O.map iN)), none, none, none, none] ((List.range' 1 399).map iN) [] S = .ok (((List.range' 1 399).filter (hasB P G O)).map iN) S :=
    filt_comp (hasB P G O) (List.range' 1 399) (by simp) fun n hn => by
      rw [List.mem_range'_1] at hn
      have e := h2 P G O n S (by omega)
      rw [decide_eq_true (show 0 < n by omega), Bool.true_and] at e
      unfold formD at e ⊢
      simp_arith only [B__law_other_T1, e]
      cases hasB P G O n <;> simp_arith only [] <;> rfl
  have tk : cutL (((List.range' 1 399).filter (hasB P G O)).map iN) none (some 1) = (((List.range' 1 399).filter (hasB P G O)).take 1).map iN := take_nat _ 1
  have mem : ∀ y ∈ ((List.range' 1 399).filter (hasB P G O)).take 1, 0 < y ∧ hasB P G O y = true := fun y hy => by
    have := List.mem_filter.mp (List.mem_of_mem_take hy)
    rw [List.mem_range'_1] at this
    exact ⟨by omega, this.2⟩
  obtain ⟨ex, hex⟩ : ∃ ex, ex = ((List.range' 1 399).filter (hasB P G O)).take 1 := ⟨_, rfl⟩
  have lex : ex.length ≤ 1 := by rw [hex, List.length_take]; omega
  rw [← hex] at tk mem
  generalize (List.range' 1 399).filter (hasB P G O) = fl at *
  have ne := ne_nilN ex
  have f3 : ∀ a b c : D, few [a, b, c] = some [a, b, c] := fun a b c => few_ok (by simp)
  have f1 : ∀ a : D, few [a] = some [a] := fun a => few_ok (by simp)
  have key : ∀ (fs gs : List (List Nat × List Nat)), otherT F1 F2 [some x, some (formD P G O), some (iN P), some (.tup (G.map iN)), some (.tup (O.map iN)), some (.lst (ex.map iN)), some (.ref S.length), none, none] (S ++ [.lst (fs.map (foD P))]) = .ok (.rt (.ref S.length)) (S ++ [.lst (gs.map (foD P))]) →
      doneR false S (otherT F1 F2 [some x, some (formD P G O), some (iN P), some (.tup (G.map iN)), some (.tup (O.map iN)), some (.lst (ex.map iN)), some (.ref S.length), none, none] (S ++ [.lst (fs.map (foD P))])) = .ok (.lst (gs.map (foD P))) S := fun fs gs h => by
    rw [h]
    exact cut_list S [] _ (nbs_lt _ _ (nbs_fo P gs))
  match ex, lex, ne, mem, tk, key with
  | [], _, ne, mem, tk, key =>
    obtain ⟨gs, g1, g2, g3⟩ := other_tail (F2 := F2) h1 v (by omega) (S := S) (x0 := some x) (x1 := some (formD P G O)) (x5 := some (.lst (([] : List Nat).map iN))) (fs := []) (by simp) (by simp)
    refine ⟨gs, g1, g2, ?_⟩
    have k := key [] gs g3
    rw [show (!([] : List Nat).isEmpty) = false from rfl] at ne
    show doneR false S (B__law_other F1 F2 [some x, some (formD P G O), none, none, none, none, none, none, none] S) = _
    rw [otherT_eq]
    have tk : cutL (fl.map iN) none (some 1) = [] := tk
    have ne : neD (.lst []) (.lst []) = some (.bl false) := ne
    have k : doneR false S (otherT F1 F2 [some x, some (formD P G O), some (iN P), some (.tup (G.map iN)), some (.tup (O.map iN)), some (.lst []), some (.ref S.length), none, none] (S ++ [.lst []])) = _ := k
    unfold formD at e1 k ⊢
    simp_arith only [rg, e1, tk, few0, ne]
    exact k
  | [y], _, ne, mem, tk, key =>
    obtain ⟨y0, y1⟩ := mem y (by simp)
    have yh : Nat.gcd y P ∈ G ∧ y ∉ O := by
      unfold hasB at y1
      rw [Bool.and_eq_true, decide_eq_true_eq, Bool.not_eq_true', decide_eq_false_iff_not] at y1
      exact y1
    obtain ⟨M, q1, q2, q3⟩ := risen (O ++ [y])
    have nd : (O ++ [y]).Nodup := by
      refine List.nodup_append.mpr ⟨v.ord.imp fun {a b} (q : a < b) => by omega, by simp, fun a ha b hb => ?_⟩
      rw [List.mem_singleton.mp hb]
      exact fun z => yh.2 (z ▸ ha)
    have sN := sortN nd q1 q2
    have mM : y ∈ M := (q2 y).mpr (by simp)
    have ot : Ot P G O (G, M) := by
      refine ⟨⟨v.clo, v.le, v.few, q1, fun o ho => ?_, by simp at q3; show M.length ≤ 1000; omega⟩, fun z => yh.2 (by rw [← z.2]; exact mM)⟩
      rcases List.mem_append.mp ((q2 o).mp ho) with w | w
      · exact v.out o w
      · rw [List.mem_singleton.mp w]; exact ⟨y0, yh.1⟩
    obtain ⟨gs, g1, g2, g3⟩ := other_tail (F2 := F2) h1 v (by omega) (S := S) (x0 := some x) (x1 := some (formD P G O)) (x5 := some (.lst ([y].map iN))) (fs := [(G, M)]) (by intro f hf; rw [List.mem_singleton.mp hf]; exact ot) (by simp)
    refine ⟨gs, g1, g2, ?_⟩
    have k := key [(G, M)] gs g3
    rw [show (!([y] : List Nat).isEmpty) = true from rfl] at ne
    have li : listD [.tup (O.map iN)] = some (.lst (O.map iN)) := rfl
    have ct : addD (.lst (O.map iN)) (.lst [iN y]) = some (.lst ((O ++ [y]).map iN)) := catN (a := O) (b := [y]) (by simp; omega)
    have fo : [(G, M)].map (foD P) = [.tup [iN P, .tup (G.map iN), .tup (M.map iN)]] := rfl
    rw [fo] at k
    show doneR false S (B__law_other F1 F2 [some x, some (formD P G O), none, none, none, none, none, none, none] S) = _
    rw [otherT_eq]
    have tk : cutL (fl.map iN) none (some 1) = [iN y] := tk
    have ne : neD (.lst [iN y]) (.lst []) = some (.bl true) := ne
    generalize O ++ [y] = Oy at *
    have k : doneR false S (otherT F1 F2 [some x, some (formD P G O), some (iN P), some (.tup (G.map iN)), some (.tup (O.map iN)), some (.lst [iN y]), some (.ref S.length), none, none] (S ++ [.lst [.tup [iN P, .tup (G.map iN), .tup (M.map iN)]]])) = _ := k
    unfold formD at e1 k ⊢
    simp_arith only [rg, e1, tk, few0, ne, li, ct, sN, f3, f1]
    exact k
end SS
end
section
set_option Elab.async false
set_option linter.all false
set_option maxRecDepth 100000
set_option autoImplicit false
set_option maxHeartbeats 2000000
namespace K50
open PySem PySem.Spec PyProof.Rows L2 FL
def g_Moduli___init___1_exceptions_divisors_period : List D → List D → List D
  | [a0], [b0, b1, b2] => [a0, b2, b1, b0]
  | _, _ => []
noncomputable def F__law_spring : List D → M D := dBody true 1 SS.B__law_spring
noncomputable def F__law_dip : List D → M D := dBody false 7 SS.B__law_dip
noncomputable def F__law_pick : List D → M D := dBody false 2 (SS.B__law_pick_1 F__law_dip)
noncomputable def F__law_gcd : List D → M D := dBody false 3 SS.B__law_gcd
noncomputable def F__law_drawn_set : List D → M D := dBody false 11 (SS.B__law_drawn_set F__law_dip F__law_gcd F__law_pick)
noncomputable def F__law_lcm : List D → M D := dBody false 3 (SS.B__law_lcm F__law_gcd)
noncomputable def F__law_least : List D → M D := dBody false 7 (SS.B__law_least F__law_lcm)
noncomputable def F__law_in : List D → M D := dBody false 2 (SS.B__law_in F__law_gcd)
noncomputable def F__law_other : List D → M D := dBody false 9 (SS.B__law_other F__law_gcd F__law_in)
noncomputable def F__law_wrapped : List D → M D := dBody false 5 (SS.B__law_wrapped F__law_gcd F__law_pick)
noncomputable def F__law_told : List D → M D := dBody false 8 (SS.B__law_told_1 F__law_in)
noncomputable def F_require_given : List D → M D := dBody false 3 SS.B_require_given
noncomputable def F_leasts_of : List D → M D := dBody false 3 SS.B_leasts_of
noncomputable def F_common_divisor : List D → M D := dBody false 2 SS.B_common_divisor
noncomputable def F_lcm_of : List D → M D := dBody false 3 (SS.B_lcm_of F_common_divisor)
noncomputable def F_root_above : List D → M D := dBody false 2 SS.B_root_above
noncomputable def F_divisors_of : List D → M D := dBody false 3 (SS.B_divisors_of F_root_above)
noncomputable def F_told_form_modulisets : List D → M D := dBody false 10 (SS.B_told_form_modulisets F_common_divisor F_divisors_of F_lcm_of F_leasts_of)
noncomputable def F_is_integer : List D → M D := dBody false 1 SS.B_is_integer
noncomputable def F_is_number : List D → M D := dBody false 1 (SS.B_is_number F_is_integer)
noncomputable def F_is_modulus : List D → M D := dBody false 1 (SS.B_is_modulus F_is_number)
noncomputable def F_is_rising : List D → M D := dBody false 3 SS.B_is_rising
noncomputable def F_are_moduli_in : List D → M D := dBody false 2 (SS.B_are_moduli_in F_is_modulus F_is_rising)
noncomputable def F_are_closed : List D → M D := dBody false 5 (SS.B_are_closed F_are_moduli_in F_divisors_of)
noncomputable def F_Moduli___init__ : List D → M D := dBody false 6 (SS.B_Moduli___init__ F_are_closed F_are_moduli_in F_common_divisor F_is_modulus F_require_given F_told_form_modulisets)
noncomputable def F_has_modulus : List D → M D := dBody false 5 (SS.B_has_modulus F_common_divisor)
noncomputable def F_Moduli___contains__ : List D → M D := dBody false 2 (SS.B_Moduli___contains__ F_has_modulus F_is_modulus)
noncomputable def FR_multiples_to : Nat → List D → M D
  | 0 => fun _ _ => .no
  | n + 1 => dBody false 7 (SS.B_multiples_to F_lcm_of (FR_multiples_to n))
noncomputable def F_multiples_to : List D → M D := FR_multiples_to 64
noncomputable def F_many_to : List D → M D := dBody false 6 (SS.B_many_to F_leasts_of F_multiples_to)
noncomputable def F_nth_of : List D → M D := dBody false 5 (SS.B_nth_of F_many_to)
noncomputable def F_Moduli_least : List D → M D := dBody false 1 (SS.B_Moduli_least F_nth_of)
noncomputable def F_least_bits : List D → M D := dBody false 8 (SS.B_least_bits F_has_modulus)
noncomputable def F_Moduli_bits : List D → M D := dBody false 1 (SS.B_Moduli_bits F_least_bits)
noncomputable def F_Moduli_all_from : List D → M D := dBody false 4 SS.B_Moduli_all_from
noncomputable def F_Moduli___getitem__ : List D → M D := dBody false 2 (SS.B_Moduli___getitem__ F_is_number F_nth_of F_require_given)
noncomputable def F__law_powers_right : List D → M D := dBody false 3 (SS.B__law_powers_right F_Moduli___contains__ F_Moduli___getitem__ F_Moduli___init__ F_Moduli_all_from F_Moduli_bits F_Moduli_least)
noncomputable def F_Moduli___eq__ : List D → M D := dBody false 2 SS.B_Moduli___eq__
noncomputable def F_Moduli_form : List D → M D := dBody false 1 SS.B_Moduli_form
noncomputable def F_Moduli_period : List D → M D := dBody false 1 SS.B_Moduli_period
noncomputable def F_Moduli_divisors : List D → M D := dBody false 1 SS.B_Moduli_divisors
noncomputable def F_Moduli_exceptions : List D → M D := dBody false 1 SS.B_Moduli_exceptions
noncomputable def B_law_E1 : FEx := (eBinM (hIx [("Moduli", F_Moduli___getitem__)] ixD) (eVar 5) (eVar 12))
noncomputable def B_law_L1 : FSx := (sIf (asB (eBin neD (eBinM (hIn false [("Moduli", F_Moduli___contains__)] inD) (eVar 7) (eVar 5)) (eCall 2 0 gAll F__law_in (aCons (eVar 2) (aCons (eVar 7) aNil)) aNil))) (sRet (eC (.bl false))) sNext)
noncomputable def B_law_L2 : FSx := (sSeq (sAsg (eBin addD (eBin ixD (eLst (aCons (eBin powD (eC (.int 10)) (eC (.int 3))) (aCons (eBin powD (eC (.int 10)) (eC (.int 20))) (aCons (eBin powD (eC (.int 10)) (eC (.int 59))) aNil)))) (eVar 8)) (eCall 2 0 gAll F__law_dip (aCons (eVar 1) (aCons (eC (.int 120)) aNil)) aNil)) (gName' 7)) (sIf (asB (eBin neD (eBinM (hIn false [("Moduli", F_Moduli___contains__)] inD) (eVar 7) (eVar 5)) (eCall 2 0 gAll F__law_in (aCons (eVar 2) (aCons (eVar 7) aNil)) aNil))) (sRet (eC (.bl false))) sNext))
noncomputable def B_law_L3 : FSx := (sIf (asB (eBinM (hIn false [("Moduli", F_Moduli___contains__)] inD) (eVar 9) (eVar 5))) (sRet (eC (.bl false))) sNext)
noncomputable def B_law_L4 : FSx := (sSeq (sAsg (eMake "Moduli" 3 0 (gDef []) F_Moduli___init__ (aCons (eBin ixD (eVar 4) (eC (.int 0))) (aCons (eBin ixD (eVar 4) (eC (.int 1))) (aCons (eBin ixD (eVar 4) (eC (.int 2))) aNil))) aNil) (gName' 5)) (sSeq (sIf (asB (eBin neD (eCallP reprD (aCons (eLst (aCons (eAttrM [("Moduli", F_Moduli_form)] [] "form" (eVar 5)) (aCons (eAttrM [("Moduli", F_Moduli_period)] [] "period" (eVar 5)) (aCons (eAttrM [("Moduli", F_Moduli_divisors)] [] "divisors" (eVar 5)) (aCons (eAttrM [("Moduli", F_Moduli_exceptions)] [] "exceptions" (eVar 5)) aNil))))) aNil)) (eCallP reprD (aCons (eLst (aCons (eVar 3) (aCons (eBin ixD (eVar 3) (eC (.int 0))) (aCons (eBin ixD (eVar 3) (eC (.int 1))) (aCons (eBin ixD (eVar 3) (eC (.int 2))) aNil))))) aNil)))) (sRet (eC (.bl false))) sNext) (sSeq (sAsg (eCall 1 0 gAll F__law_told (aCons (eVar 2) aNil) aNil) (gName' 6)) (sSeq (sIf (asB (eBin neD (eCallP reprD (aCons (eLst (aCons (eAttrM [("Moduli", F_Moduli_least)] [] "least" (eVar 5)) (aCons (eAttrM [("Moduli", F_Moduli_bits)] [] "bits" (eVar 5)) (aCons (eAttrM [("Moduli", F_Moduli_all_from)] [] "all_from" (eVar 5)) aNil)))) aNil)) (eCallP reprD (aCons (eSl (eVar 6) oNone (oSome (eC (.int 3)))) aNil)))) (sRet (eC (.bl false))) sNext) (sSeq (sIf (tOr2 (asB (eBin neD (eComp [12] (iRange rangeD1 (aCons (eCallP lenD (aCons (eBin ixD (eVar 6) (eC (.int 3))) aNil)) aNil)) (gName' 12) tTrue B_law_E1) (eBin ixD (eVar 6) (eC (.int 3))))) (tNot1 (asB (eBinM (hCmp [("Moduli", F_Moduli___eq__)] eqD) (eVar 5) (eMake "Moduli" 3 0 (gDef []) F_Moduli___init__ (aCons (eBin ixD (eVar 3) (eC (.int 0))) (aCons (eBin ixD (eVar 3) (eC (.int 1))) (aCons (eBin ixD (eVar 3) (eC (.int 2))) aNil))) aNil))))) (sRet (eC (.bl false))) sNext) (sSeq (sFor (iRange rangeD2 (aCons (eC (.int 1)) (aCons (eC (.int 30)) aNil))) (gName' 7) B_law_L1) (sSeq (sFor (iRange rangeD1 (aCons (eC (.int 3)) aNil)) (gName' 8) B_law_L2) (sFor (iSeqD (eTup (aCons (eC (.int 0)) (aCons (eUn negD (eC (.int 1))) (aCons (eC (.bl true)) (aCons (eC .non) (aCons (eC (.str "1")) (aCons (eTup (aCons (eC (.int 1)) aNil)) (aCons (eLst (aCons (eC (.int 1)) aNil)) (aCons (eBin mulD (eBin powD (eC (.int 10)) (eC (.int 30))) (eC (.int 0))) aNil)))))))))) (gName' 9) B_law_L3))))))))
noncomputable def B_law_L5 : FSx := (sSeq (sAsg (eMake "Moduli" 0 3 g_Moduli___init___1_exceptions_divisors_period F_Moduli___init__ aNil (aCons (eBin ixD (eVar 4) (eC (.int 2))) (aCons (eBin ixD (eVar 4) (eC (.int 1))) (aCons (eBin ixD (eVar 4) (eC (.int 0))) aNil)))) (gName' 10)) (sIf (tOr2 (asB (eBinM (hCmp [("Moduli", F_Moduli___eq__)] eqD) (eVar 10) (eMake "Moduli" 3 0 (gDef []) F_Moduli___init__ (aCons (eBin ixD (eVar 2) (eC (.int 0))) (aCons (eBin ixD (eVar 2) (eC (.int 1))) (aCons (eBin ixD (eVar 2) (eC (.int 2))) aNil))) aNil))) (asB (eBinM (hCmp [("Moduli", F_Moduli___eq__)] eqD) (eMake "Moduli" 3 0 (gDef []) F_Moduli___init__ (aCons (eBin ixD (eVar 2) (eC (.int 0))) (aCons (eBin ixD (eVar 2) (eC (.int 1))) (aCons (eBin ixD (eVar 2) (eC (.int 2))) aNil))) aNil) (eVar 10)))) (sRet (eC (.bl false))) sNext))
noncomputable def B_law : FSx := (sSeq (sAsg (eCall 1 0 gAll F__law_spring (aCons (eVar 0) aNil) aNil) (gName' 1)) (sSeq (sAsg (eCall 1 0 gAll F__law_drawn_set (aCons (eVar 1) aNil) aNil) (gName' 2)) (sSeq (sAsg (eCall 3 0 gAll F__law_least (aCons (eBin ixD (eVar 2) (eC (.int 0))) (aCons (eCallP listD (aCons (eBin ixD (eVar 2) (eC (.int 1))) aNil)) (aCons (eCallP listD (aCons (eBin ixD (eVar 2) (eC (.int 2))) aNil)) aNil))) aNil) (gName' 3)) (sSeq (sFor (iSeqD (eTup (aCons (eVar 2) (aCons (eCall 2 0 gAll F__law_wrapped (aCons (eVar 1) (aCons (eVar 2) aNil)) aNil) aNil)))) (gName' 4) B_law_L4) (sSeq (sFor (iSeqD (eCall 2 0 gAll F__law_other (aCons (eVar 1) (aCons (eVar 2) aNil)) aNil)) (gName' 4) B_law_L5) (sSeq (sAsg (eMake "Moduli" 0 0 (gDef [.int 1, .tup [.int 1], .tup []]) F_Moduli___init__ aNil aNil) (gName' 11)) (sSeq (sIf (tNot1 (asT (eCall 0 0 gAll F__law_powers_right aNil aNil))) (sRet (eC (.bl false))) sNext) (sSeq (sIf (tOr2 (asB (eBin neD (eCallP reprD (aCons (eAttrM [("Moduli", F_Moduli_form)] [] "form" (eVar 11)) aNil)) (eCallP reprD (aCons (eTup (aCons (eC (.int 1)) (aCons (eTup (aCons (eC (.int 1)) aNil)) (aCons (eTup aNil) aNil)))) aNil)))) (tOr2 (asB (eBinM (hCmp [("Moduli", F_Moduli___eq__)] eqD) (eVar 11) (eTup (aCons (eC (.int 1)) (aCons (eTup (aCons (eC (.int 1)) aNil)) (aCons (eTup aNil) aNil)))))) (asB (eBinM (hCmp [("Moduli", F_Moduli___eq__)] eqD) (eVar 11) (eC (.int 1)))))) (sRet (eC (.bl false))) sNext) (sRet (eAnd2 (eBinM (hCmp [("Moduli", F_Moduli___eq__)] eqD) (eVar 11) (eMake "Moduli" 2 0 (gDef [.tup []]) F_Moduli___init__ (aCons (eC (.int 6)) (aCons (eTup (aCons (eC (.int 1)) (aCons (eC (.int 2)) (aCons (eC (.int 3)) (aCons (eC (.int 6)) aNil))))) aNil)) aNil)) (eBin eqD (eCallP reprD (aCons (eAttrM [("Moduli", F_Moduli_form)] [] "form" (eMake "Moduli" 2 0 (gDef [.tup []]) F_Moduli___init__ (aCons (eC (.int 6)) (aCons (eTup aNil) aNil)) aNil)) aNil)) (eCallP reprD (aCons (eTup (aCons (eC (.int 1)) (aCons (eTup aNil) (aCons (eTup aNil) aNil)))) aNil)))))))))))))
noncomputable def F_law : List D → M D := dBody false 13 B_law
end K50
end
section
set_option Elab.async false
set_option linter.all false
set_option maxRecDepth 100000
set_option autoImplicit false
set_option maxHeartbeats 20000000
namespace K50
open PySem PySem.Spec PyProof.Rows L2 FL
structure TT (K : PySem.W.Frag) (mg : Str → Option Value) : Prop extends Top frs cns dfs K mg, TopC crs csn cms mdf gdf K mg where
  al : ∀ c ∈ aln, mg c = some (.ref (He.ga K c))
  dfc : ∀ q ∈ dfc, dIs K q.2.2 (.ref (He.dflAt q.1 q.2.1 K)) = true
section
variable {P : Program} {w : World} {K : PySem.W.Frag} {mg : Str → Option Value} {base : Heap}
theorem sc__law_spring : FnScope ["_law_script"] ["_law_script"] (defScope s__law_spring) := C8.fnScope_by (by decide +kernel)
theorem fn__law_spring (T : TT K mg) : ∃ fd, FunD K "_law_spring" "_law_spring" (defArgs s__law_spring) (defBody s__law_spring) (defScope s__law_spring) (d__law_spring.dvs K) (d__law_spring.kws K) (He.fAd K ("_law_spring", none)) fd ∧ mg "_law_spring" = some (.ref (He.fAd K ("_law_spring", none))) ∧ FnD P w K mg base C8.CX0 1 (He.fAd K ("_law_spring", none)) fd ["_law_script"] F__law_spring := by
  obtain ⟨fd, hf, hm⟩ := T.df d__law_spring (List.mem_of_getElem? (i := 0) rfl)
  have SC := sc__law_spring
  refine ⟨fd, hf, hm, fnd_of0 (k := 0) hf SC fun cdv B outer s H E hr hgd => ?_⟩
  exact (fss_one (fs_ret (fe_disp (fps_cons (fe_str (by decide +kernel)) (fe_callTy call_listD (by rfl) (T.fr "list" (List.mem_of_getElem? (i := 7) rfl)) (by decide +kernel) (fa_cons (fe_sl (fe_var (pv 0)) fo_none (fo_some fe_int)) fa_nil)) (fps_cons (fe_str (by decide +kernel)) fe_int (fps_cons (fe_str (by decide +kernel)) fe_int (fps_cons (fe_str (by decide +kernel)) fe_int fps_nil)))))))
theorem cal__law_spring (T : TT K mg) : CalD P w K mg base C8.CX0 1 "_law_spring" 1 [] gAll F__law_spring := by
  obtain ⟨fd, hf, hm, hF⟩ := fn__law_spring (P := P) (w := w) (base := base) T
  exact ⟨_, fd, _, hF, hm, hf.kp, bdd_all (hf.bindsN fun _ _ _ _ _ _ us hl => match us, hl with | [_], _ => rfl)⟩
theorem sc__law_dip : FnScope ["_law_spring_here", "_law_many", "_law_count", "_law_figure", "_law_turn", "_law_cell", "_law_mixed"] ["_law_spring_here", "_law_many"] (defScope s__law_dip) := C8.fnScope_by (by decide +kernel)
theorem fn__law_dip (T : TT K mg) : ∃ fd, FunD K "_law_dip" "_law_dip" (defArgs s__law_dip) (defBody s__law_dip) (defScope s__law_dip) (d__law_dip.dvs K) (d__law_dip.kws K) (He.fAd K ("_law_dip", none)) fd ∧ mg "_law_dip" = some (.ref (He.fAd K ("_law_dip", none))) ∧ FnD P w K mg base C8.CX0 1 (He.fAd K ("_law_dip", none)) fd ["_law_spring_here", "_law_many"] F__law_dip := by
  obtain ⟨fd, hf, hm⟩ := T.df d__law_dip (List.mem_of_getElem? (i := 1) rfl)
  have SC := sc__law_dip
  refine ⟨fd, hf, hm, fnd_of0 (k := 0) hf SC fun cdv B outer s H E hr hgd => ?_⟩
  exact (fss_cons (fs_set (i := 2) SC.nd rfl (.inl rfl) (fe_op op_addD (fe_ix (ix_D (room_65 hr)) (fe_var (pv 0)) (fe_str (by decide +kernel))) fe_int))
      (fss_cons (fs_asg (fe_var (pv 2)) (fg_sub (room_1 hr) (fe_var (pv 0)) (fe_str (by decide +kernel))))
      (fss_cons (fs_if (ft_cmp op_gtD (fe_ix (ix_D (room_65 hr)) (fe_var (pv 0)) (fe_str (by decide +kernel))) fe_int) (fss_cons (fs_set (i := 3) SC.nd rfl (.inl rfl) (fe_op op_modD (fe_callTy call_intD (by rfl) (T.fr "int" (List.mem_of_getElem? (i := 4) rfl)) (by decide +kernel) (fa_cons (fe_ix (ix_D (room_65 hr)) (fe_var (pv 0)) (fe_str (by decide +kernel))) fa_nil)) (fe_var (pv 1))))
      (fss_cons (fs_asg (fe_op op_fdivD (fe_ix (ix_D (room_65 hr)) (fe_var (pv 0)) (fe_str (by decide +kernel))) (fe_var (pv 1))) (fg_sub (room_1 hr) (fe_var (pv 0)) (fe_str (by decide +kernel))))
      (fss_one (fs_ret (fe_var (pv 3)))))) fss_nil)
      (fss_cons (fs_set (i := 4) SC.nd rfl (.inl rfl) (fe_ix (ix_D (room_65 hr)) (fe_var (pv 0)) (fe_str (by decide +kernel))))
      (fss_cons (fs_asg (fe_op op_addD (fe_var (pv 4)) fe_int) (fg_sub (room_1 hr) (fe_var (pv 0)) (fe_str (by decide +kernel))))
      (fss_cons (fs_set (i := 5) SC.nd rfl (.inl rfl) fe_int)
      (fss_cons (fs_if (ft_cmp (op_neDD (room_64 hr)) (fe_ix (ix_D (room_65 hr)) (fe_var (pv 0)) (fe_str (by decide +kernel))) (fe_lst fa_nil)) (fss_one (fs_set (i := 5) SC.nd rfl (.inl rfl) (fe_ix (ix_D (room_65 hr)) (fe_ix (ix_D (room_65 hr)) (fe_var (pv 0)) (fe_str (by decide +kernel))) (fe_op op_modD (fe_callTy call_intD (by rfl) (T.fr "int" (List.mem_of_getElem? (i := 4) rfl)) (by decide +kernel) (fa_cons (fe_var (pv 4)) fa_nil)) (fe_callB call_lenD (by rfl) (T.fr "len" (List.mem_of_getElem? (i := 6) rfl)) (by decide +kernel) (fa_cons (fe_ix (ix_D (room_65 hr)) (fe_var (pv 0)) (fe_str (by decide +kernel))) fa_nil)))))) fss_nil)
      (fss_cons (fs_if (PW.pt (fw_and (ft_cmp op_geD (fe_var (pv 5)) (fe_op op_powD fe_int fe_int)) (fw_and1 (ft_cmp op_ltD (fe_var (pv 4)) (fe_callB call_lenD (by rfl) (T.fr "len" (List.mem_of_getElem? (i := 6) rfl)) (by decide +kernel) (fa_cons (fe_ix (ix_D (room_65 hr)) (fe_var (pv 0)) (fe_str (by decide +kernel))) fa_nil)))))) (fss_cons (fs_asg (fe_op op_fdivD (fe_var (pv 5)) (fe_var (pv 1))) (fg_sub (room_1 hr) (fe_var (pv 0)) (fe_str (by decide +kernel))))
      (fss_one (fs_ret (fe_op op_modD (fe_callTy call_intD (by rfl) (T.fr "int" (List.mem_of_getElem? (i := 4) rfl)) (by decide +kernel) (fa_cons (fe_var (pv 5)) fa_nil)) (fe_var (pv 1)))))) fss_nil)
      (fss_cons (fs_set (i := 6) SC.nd rfl (.inl rfl) (fe_op op_modD (fe_callTy call_intD (by rfl) (T.fr "int" (List.mem_of_getElem? (i := 4) rfl)) (by decide +kernel) (fa_cons (fe_op op_powD (fe_op op_addD (fe_op op_addD (fe_op op_modD (fe_callTy call_intD (by rfl) (T.fr "int" (List.mem_of_getElem? (i := 4) rfl)) (by decide +kernel) (fa_cons (fe_var (pv 5)) fa_nil)) fe_int) (fe_op op_mulD fe_int (fe_var (pv 2)))) fe_int) fe_int) fa_nil)) fe_int))
      (fss_cons (fs_set (i := 6) SC.nd rfl (.inl rfl) (fe_op op_modD (fe_callTy call_intD (by rfl) (T.fr "int" (List.mem_of_getElem? (i := 4) rfl)) (by decide +kernel) (fa_cons (fe_op op_powD (fe_op op_addD (fe_var (pv 6)) (fe_op op_mulD fe_int (fe_var (pv 2)))) fe_int) fa_nil)) fe_int))
      (fss_one (fs_ret (fe_op op_modD (fe_callTy call_intD (by rfl) (T.fr "int" (List.mem_of_getElem? (i := 4) rfl)) (by decide +kernel) (fa_cons (fe_op op_fdivD (fe_var (pv 6)) fe_int) fa_nil)) (fe_var (pv 1)))))))))))))))
theorem cal__law_dip (T : TT K mg) : CalD P w K mg base C8.CX0 1 "_law_dip" 2 [] gAll F__law_dip := by
  obtain ⟨fd, hf, hm, hF⟩ := fn__law_dip (P := P) (w := w) (base := base) T
  exact ⟨_, fd, _, hF, hm, hf.kp, bdd_all (hf.bindsN fun _ _ _ _ _ _ us hl => match us, hl with | [_, _], _ => rfl)⟩
theorem sc__law_pick : FnScope ["_law_spring_here", "_law_items"] ["_law_spring_here", "_law_items"] (defScope s__law_pick) := C8.fnScope_by (by decide +kernel)
theorem fn__law_pick (T : TT K mg) : ∃ fd, FunD K "_law_pick" "_law_pick" (defArgs s__law_pick) (defBody s__law_pick) (defScope s__law_pick) (d__law_pick.dvs K) (d__law_pick.kws K) (He.fAd K ("_law_pick", none)) fd ∧ mg "_law_pick" = some (.ref (He.fAd K ("_law_pick", none))) ∧ FnD P w K mg base C8.CX0 2 (He.fAd K ("_law_pick", none)) fd ["_law_spring_here", "_law_items"] F__law_pick := by
  obtain ⟨fd, hf, hm⟩ := T.df d__law_pick (List.mem_of_getElem? (i := 2) rfl)
  have SC := sc__law_pick
  refine ⟨fd, hf, hm, fnd_of0 (k := 1) hf SC fun cdv B outer s H E hr hgd => ?_⟩
  exact (fss_one (fs_ret (fe_ix (ix_D (room_65 hr)) (fe_var (pv 1)) (fe_call (cal__law_dip T) hr (by omega) hgd (by rfl) C8.pass0 (fa_cons (fe_var (pv 0)) (fa_cons (fe_callB call_lenD (by rfl) (T.fr "len" (List.mem_of_getElem? (i := 6) rfl)) (by decide +kernel) (fa_cons (fe_var (pv 1)) fa_nil)) fa_nil))))))
theorem cal__law_pick (T : TT K mg) : CalD P w K mg base C8.CX0 2 "_law_pick" 2 [] gAll F__law_pick := by
  obtain ⟨fd, hf, hm, hF⟩ := fn__law_pick (P := P) (w := w) (base := base) T
  exact ⟨_, fd, _, hF, hm, hf.kp, bdd_all (hf.bindsN fun _ _ _ _ _ _ us hl => match us, hl with | [_, _], _ => rfl)⟩
theorem sc__law_gcd : FnScope ["_law_one", "_law_two", "_law_lap"] ["_law_one", "_law_two"] (defScope s__law_gcd) := C8.fnScope_by (by decide +kernel)
theorem fn__law_gcd (T : TT K mg) : ∃ fd, FunD K "_law_gcd" "_law_gcd" (defArgs s__law_gcd) (defBody s__law_gcd) (defScope s__law_gcd) (d__law_gcd.dvs K) (d__law_gcd.kws K) (He.fAd K ("_law_gcd", none)) fd ∧ mg "_law_gcd" = some (.ref (He.fAd K ("_law_gcd", none))) ∧ FnD P w K mg base C8.CX0 1 (He.fAd K ("_law_gcd", none)) fd ["_law_one", "_law_two"] F__law_gcd := by
  obtain ⟨fd, hf, hm⟩ := T.df d__law_gcd (List.mem_of_getElem? (i := 3) rfl)
  have SC := sc__law_gcd
  refine ⟨fd, hf, hm, fnd_of0 (k := 0) hf SC fun cdv B outer s H E hr hgd => ?_⟩
  exact (fss_cons (fs_for PassesOwn.never rfl (fi_range1 (by rfl) (T.fr "range" (List.mem_of_getElem? (i := 9) rfl)) (fa_cons fe_int fa_nil)) (fgw_n (fg_name (pg_name (i := 2) SC.nd rfl (.inl rfl)))) (fss_cons (fs_if (ft_cmp (op_eqDD (room_64 hr)) (fe_var (pv 1)) fe_int) (fss_one (fs_ret (fe_var (pv 0)))) fss_nil)
      (fss_one (fs_par (i := 0) (j := 1) rfl SC.nd rfl rfl (by decide) rfl rfl (fa_cons (fe_var (pv 1)) (fa_cons (fe_op op_modD (fe_callTy call_intD (by rfl) (T.fr "int" (List.mem_of_getElem? (i := 4) rfl)) (by decide +kernel) (fa_cons (fe_var (pv 0)) fa_nil)) (fe_var (pv 1))) fa_nil)) (by rfl)))))
      (fss_one (fs_ret (fe_var (pv 0)))))
theorem cal__law_gcd (T : TT K mg) : CalD P w K mg base C8.CX0 1 "_law_gcd" 2 [] gAll F__law_gcd := by
  obtain ⟨fd, hf, hm, hF⟩ := fn__law_gcd (P := P) (w := w) (base := base) T
  exact ⟨_, fd, _, hF, hm, hf.kp, bdd_all (hf.bindsN fun _ _ _ _ _ _ us hl => match us, hl with | [_, _], _ => rfl)⟩
theorem sc__law_drawn_set : FnScope ["_law_spring_here", "_law_whole", "_law_parts", "_law_least_here", "_law_goods", "_law_some", "_law_outs", "_law_d", "_law_lap", "_law_n", "_law_e"] ["_law_spring_here"] (defScope s__law_drawn_set) := C8.fnScope_by (by decide +kernel)
theorem fn__law_drawn_set (T : TT K mg) : ∃ fd, FunD K "_law_drawn_set" "_law_drawn_set" (defArgs s__law_drawn_set) (defBody s__law_drawn_set) (defScope s__law_drawn_set) (d__law_drawn_set.dvs K) (d__law_drawn_set.kws K) (He.fAd K ("_law_drawn_set", none)) fd ∧ mg "_law_drawn_set" = some (.ref (He.fAd K ("_law_drawn_set", none))) ∧ FnD P w K mg base C8.CX0 3 (He.fAd K ("_law_drawn_set", none)) fd ["_law_spring_here"] F__law_drawn_set := by
  obtain ⟨fd, hf, hm⟩ := T.df d__law_drawn_set (List.mem_of_getElem? (i := 4) rfl)
  have SC := sc__law_drawn_set
  refine ⟨fd, hf, hm, fnd_of0 (k := 2) hf SC fun cdv B outer s H E hr hgd => ?_⟩
  exact (fss_cons (fs_set (i := 1) SC.nd rfl (.inr rfl) (fe_call (cal__law_pick T) hr (by omega) hgd (by rfl) C8.pass0 (fa_cons (fe_var (pv 0)) (fa_cons (fe_lst (fa_cons fe_int (fa_cons fe_int (fa_cons fe_int (fa_cons fe_int (fa_cons fe_int (fa_cons fe_int (fa_cons fe_int (fa_cons fe_int (fa_cons fe_int (fa_cons fe_int (fa_cons fe_int (fa_cons fe_int (fa_cons fe_int fa_nil)))))))))))))) fa_nil))))
      (fss_cons (fs_setComp (i := 2) (own := [("_law_d", 7)]) rfl SC.nd rfl rfl (by rfl) (fi_range2 (by rfl) (T.fr "range" (List.mem_of_getElem? (i := 9) rfl)) (fa_cons fe_int (fa_cons (fe_op op_addD (fe_var (pv 1)) fe_int) fa_nil))) (blkOk_by (by rfl)) (fun _ _ _ _ _ => (fgc_name (pg_name (i := 7) SC.nd rfl (by first | exact .inl rfl | exact .inr rfl)))) (fun _ _ _ _ _ => (fts_one (ft_cmp (op_eqDD (room_64 hr)) (fe_op op_modD (fe_callTy call_intD (by rfl) (T.fr "int" (List.mem_of_getElem? (i := 4) rfl)) (by decide +kernel) (fa_cons (fe_var (pv 1)) fa_nil)) (fe_var (pv 7))) fe_int))) (fun _ _ _ _ _ => (fe_var (pv 7))))
      (fss_cons (fs_set (i := 3) SC.nd rfl (.inr rfl) (fe_op op_addD (fe_comp (own := [("_law_d", 7)]) rfl SC.nd (fi_seq (fe_var (pv 2))) (blkOk_by (by rfl)) (fun _ _ _ _ _ => (fgc_name (pg_name (i := 7) SC.nd rfl (by first | exact .inl rfl | exact .inr rfl)))) (fun _ _ _ _ _ => (fts_one (ft_cmp (op_eqDD (room_64 hr)) (fe_call (cal__law_dip T) hr (by omega) hgd (by rfl) C8.pass0 (fa_cons (fe_var (pv 0)) (fa_cons fe_int fa_nil))) fe_int))) (fun _ _ _ _ _ => (fe_var (pv 7)))) (fe_op op_mulD (fe_lst (fa_cons (fe_call (cal__law_pick T) hr (by omega) hgd (by rfl) C8.pass0 (fa_cons (fe_var (pv 0)) (fa_cons (fe_var (pv 2)) fa_nil))) fa_nil)) (fe_callTy call_intD (by rfl) (T.fr "int" (List.mem_of_getElem? (i := 4) rfl)) (by decide +kernel) (fa_cons (fe_cmp op_gtD (fe_call (cal__law_dip T) hr (by omega) hgd (by rfl) C8.pass0 (fa_cons (fe_var (pv 0)) (fa_cons fe_int fa_nil))) fe_int) fa_nil)))))
      (fss_cons (fs_set (i := 4) SC.nd rfl (.inr rfl) (fe_comp (own := [("_law_d", 7)]) rfl SC.nd (fi_seq (fe_var (pv 2))) (blkOk_by (by rfl)) (fun _ _ _ _ _ => (fgc_name (pg_name (i := 7) SC.nd rfl (by first | exact .inl rfl | exact .inr rfl)))) (fun _ _ _ _ _ => (fts_one (ft_cmp (op_neDD (room_64 hr)) (fe_comp (own := [("_law_e", 10)]) rfl SC.nd (fi_seq (fe_var (pv 3))) (blkOk_by (by rfl)) (fun _ _ _ _ _ => (fgc_name (pg_name (i := 10) SC.nd rfl (by first | exact .inl rfl | exact .inr rfl)))) (fun _ _ _ _ _ => (fts_one (ft_cmp (op_eqDD (room_64 hr)) (fe_op op_modD (fe_callTy call_intD (by rfl) (T.fr "int" (List.mem_of_getElem? (i := 4) rfl)) (by decide +kernel) (fa_cons (fe_var (pv 7)) fa_nil)) (fe_var (pv 10))) fe_int))) (fun _ _ _ _ _ => (fe_var (pv 10)))) (fe_lst fa_nil)))) (fun _ _ _ _ _ => (fe_var (pv 7)))))
      (fss_cons (fs_set (i := 5) SC.nd rfl (.inl rfl) (fe_sl (fe_comp (own := [("_law_lap", 8)]) rfl SC.nd (fi_range1 (by rfl) (T.fr "range" (List.mem_of_getElem? (i := 9) rfl)) (fa_cons fe_int fa_nil)) (blkOk_by (by rfl)) (fun _ _ _ _ _ => (fgc_name (pg_name (i := 8) SC.nd rfl (by first | exact .inl rfl | exact .inr rfl)))) (fun _ _ _ _ _ => fts_nil) (fun _ _ _ _ _ => (fe_op op_addD fe_int (fe_call (cal__law_dip T) hr (by omega) hgd (by rfl) C8.pass0 (fa_cons (fe_var (pv 0)) (fa_cons (fe_ix (ix_D (room_65 hr)) (fe_lst (fa_cons fe_int (fa_cons fe_int (fa_cons fe_int (fa_cons fe_int fa_nil))))) (fe_var (pv 8))) fa_nil)))))) fo_none (fo_some (fe_call (cal__law_dip T) hr (by omega) hgd (by rfl) C8.pass0 (fa_cons (fe_var (pv 0)) (fa_cons fe_int fa_nil))))))
      (fss_cons (fs_if (ft_cmp (op_eqDD (room_64 hr)) (fe_call (cal__law_dip T) hr (by omega) hgd (by rfl) C8.pass0 (fa_cons (fe_var (pv 0)) (fa_cons fe_int fa_nil))) fe_int) (fss_one (fs_set (i := 5) SC.nd rfl (.inl rfl) (fe_op op_addD (fe_var (pv 5)) (fe_lst (fa_cons fe_int (fa_cons fe_int (fa_cons fe_int (fa_cons fe_int (fa_cons fe_int (fa_cons fe_int fa_nil)))))))))) fss_nil)
      (fss_cons (fs_set (i := 6) SC.nd rfl (.inl rfl) (fe_sortSetB rfl (by rfl) (T.fr "sorted" (List.mem_of_getElem? (i := 12) rfl)) (by decide +kernel) (by rfl) (T.fr "set" (List.mem_of_getElem? (i := 11) rfl)) (by decide +kernel) (fe_comp (own := [("_law_n", 9)]) rfl SC.nd (fi_seq (fe_var (pv 5))) (blkOk_by (by rfl)) (fun _ _ _ _ _ => (fgc_name (pg_name (i := 9) SC.nd rfl (by first | exact .inl rfl | exact .inr rfl)))) (fun _ _ _ _ _ => (fts_one (ft_cmp (op_inDD (room_65 hr)) (fe_call (cal__law_gcd T) hr (by omega) hgd (by rfl) C8.pass0 (fa_cons (fe_var (pv 9)) (fa_cons (fe_var (pv 1)) fa_nil))) (fe_var (pv 4))))) (fun _ _ _ _ _ => (fe_var (pv 9))))))
      (fss_one (fs_ret (fe_tup (fa_cons (fe_var (pv 1)) (fa_cons (fe_callTy call_tupleD (by rfl) (T.fr "tuple" (List.mem_of_getElem? (i := 13) rfl)) (by decide +kernel) (fa_cons (fe_var (pv 4)) fa_nil)) (fa_cons (fe_callTy call_tupleD (by rfl) (T.fr "tuple" (List.mem_of_getElem? (i := 13) rfl)) (by decide +kernel) (fa_cons (fe_var (pv 6)) fa_nil)) fa_nil)))))))))))))
theorem cal__law_drawn_set (T : TT K mg) : CalD P w K mg base C8.CX0 3 "_law_drawn_set" 1 [] gAll F__law_drawn_set := by
  obtain ⟨fd, hf, hm, hF⟩ := fn__law_drawn_set (P := P) (w := w) (base := base) T
  exact ⟨_, fd, _, hF, hm, hf.kp, bdd_all (hf.bindsN fun _ _ _ _ _ _ us hl => match us, hl with | [_], _ => rfl)⟩
theorem sc__law_lcm : FnScope ["_law_numbers", "_law_whole", "_law_n"] ["_law_numbers"] (defScope s__law_lcm) := C8.fnScope_by (by decide +kernel)
theorem fn__law_lcm (T : TT K mg) : ∃ fd, FunD K "_law_lcm" "_law_lcm" (defArgs s__law_lcm) (defBody s__law_lcm) (defScope s__law_lcm) (d__law_lcm.dvs K) (d__law_lcm.kws K) (He.fAd K ("_law_lcm", none)) fd ∧ mg "_law_lcm" = some (.ref (He.fAd K ("_law_lcm", none))) ∧ FnD P w K mg base C8.CX0 2 (He.fAd K ("_law_lcm", none)) fd ["_law_numbers"] F__law_lcm := by
  obtain ⟨fd, hf, hm⟩ := T.df d__law_lcm (List.mem_of_getElem? (i := 5) rfl)
  have SC := sc__law_lcm
  refine ⟨fd, hf, hm, fnd_of0 (k := 1) hf SC fun cdv B outer s H E hr hgd => ?_⟩
  exact (fss_cons (fs_set (i := 1) SC.nd rfl (.inl rfl) fe_int)
      (fss_cons (fs_for PassesOwn.never rfl (fi_seq (fe_var (pv 0))) (fgw_n (fg_name (pg_name (i := 2) SC.nd rfl (.inl rfl)))) (fss_one (fs_set (i := 1) SC.nd rfl (.inl rfl) (fe_op op_fdivD (fe_op op_mulD (fe_var (pv 1)) (fe_var (pv 2))) (fe_call (cal__law_gcd T) hr (by omega) hgd (by rfl) C8.pass0 (fa_cons (fe_var (pv 1)) (fa_cons (fe_var (pv 2)) fa_nil)))))))
      (fss_one (fs_ret (fe_var (pv 1))))))
theorem cal__law_lcm (T : TT K mg) : CalD P w K mg base C8.CX0 2 "_law_lcm" 1 [] gAll F__law_lcm := by
  obtain ⟨fd, hf, hm, hF⟩ := fn__law_lcm (P := P) (w := w) (base := base) T
  exact ⟨_, fd, _, hF, hm, hf.kp, bdd_all (hf.bindsN fun _ _ _ _ _ _ us hl => match us, hl with | [_], _ => rfl)⟩
theorem sc__law_least : FnScope ["_law_whole", "_law_goods", "_law_outs", "_law_least_here", "_law_short", "_law_d", "_law_e"] ["_law_whole", "_law_goods", "_law_outs"] (defScope s__law_least) := C8.fnScope_by (by decide +kernel)
theorem fn__law_least (T : TT K mg) : ∃ fd, FunD K "_law_least" "_law_least" (defArgs s__law_least) (defBody s__law_least) (defScope s__law_least) (d__law_least.dvs K) (d__law_least.kws K) (He.fAd K ("_law_least", none)) fd ∧ mg "_law_least" = some (.ref (He.fAd K ("_law_least", none))) ∧ FnD P w K mg base C8.CX0 3 (He.fAd K ("_law_least", none)) fd ["_law_whole", "_law_goods", "_law_outs"] F__law_least := by
  obtain ⟨fd, hf, hm⟩ := T.df d__law_least (List.mem_of_getElem? (i := 6) rfl)
  have SC := sc__law_least
  refine ⟨fd, hf, hm, fnd_of0 (k := 2) hf SC fun cdv B outer s H E hr hgd => ?_⟩
  exact (fss_cons (fs_setComp (i := 3) (own := [("_law_d", 5)]) rfl SC.nd rfl rfl (by rfl) (fi_seq (fe_var (pv 1))) (blkOk_by (by rfl)) (fun _ _ _ _ _ => (fgc_name (pg_name (i := 5) SC.nd rfl (by first | exact .inl rfl | exact .inr rfl)))) (fun _ _ _ _ _ => (fts_one (ft_cmp (op_eqDD (room_64 hr)) (fe_comp (own := [("_law_e", 6)]) rfl SC.nd (fi_seq (fe_var (pv 1))) (blkOk_by (by rfl)) (fun _ _ _ _ _ => (fgc_name (pg_name (i := 6) SC.nd rfl (by first | exact .inl rfl | exact .inr rfl)))) (fun _ _ _ _ _ => (fts_one (PW.pt (fw_and (ft_cmp op_ltD (fe_var (pv 6)) (fe_var (pv 5))) (fw_and1 (ft_cmp (op_eqDD (room_64 hr)) (fe_op op_modD (fe_callTy call_intD (by rfl) (T.fr "int" (List.mem_of_getElem? (i := 4) rfl)) (by decide +kernel) (fa_cons (fe_var (pv 5)) fa_nil)) (fe_var (pv 6))) fe_int)))))) (fun _ _ _ _ _ => (fe_var (pv 6)))) (fe_lst fa_nil)))) (fun _ _ _ _ _ => (fe_var (pv 5))))
      (fss_cons (fs_set (i := 4) SC.nd rfl (.inr rfl) (fe_if (ft_cmp (op_neDD (room_64 hr)) (fe_var (pv 1)) (fe_lst fa_nil)) (fe_call (cal__law_lcm T) hr (by omega) hgd (by rfl) C8.pass0 (fa_cons (fe_var (pv 3)) fa_nil)) fe_int))
      (fss_one (fs_ret (fe_tup (fa_cons (fe_var (pv 4)) (fa_cons (fe_callTy call_tupleD (by rfl) (T.fr "tuple" (List.mem_of_getElem? (i := 13) rfl)) (by decide +kernel) (fa_cons (fe_comp (own := [("_law_d", 5)]) rfl SC.nd (fi_seq (fe_var (pv 1))) (blkOk_by (by rfl)) (fun _ _ _ _ _ => (fgc_name (pg_name (i := 5) SC.nd rfl (by first | exact .inl rfl | exact .inr rfl)))) (fun _ _ _ _ _ => (fts_one (ft_cmp (op_eqDD (room_64 hr)) (fe_op op_modD (fe_callTy call_intD (by rfl) (T.fr "int" (List.mem_of_getElem? (i := 4) rfl)) (by decide +kernel) (fa_cons (fe_var (pv 4)) fa_nil)) (fe_var (pv 5))) fe_int))) (fun _ _ _ _ _ => (fe_var (pv 5)))) fa_nil)) (fa_cons (fe_callTy call_tupleD (by rfl) (T.fr "tuple" (List.mem_of_getElem? (i := 13) rfl)) (by decide +kernel) (fa_cons (fe_sortSetB rfl (by rfl) (T.fr "sorted" (List.mem_of_getElem? (i := 12) rfl)) (by decide +kernel) (by rfl) (T.fr "set" (List.mem_of_getElem? (i := 11) rfl)) (by decide +kernel) (fe_var (pv 2))) fa_nil)) fa_nil))))))))
theorem cal__law_least (T : TT K mg) : CalD P w K mg base C8.CX0 3 "_law_least" 3 [] gAll F__law_least := by
  obtain ⟨fd, hf, hm, hF⟩ := fn__law_least (P := P) (w := w) (base := base) T
  exact ⟨_, fd, _, hF, hm, hf.kp, bdd_all (hf.bindsN fun _ _ _ _ _ _ us hl => match us, hl with | [_, _, _], _ => rfl)⟩
theorem sc__law_in : FnScope ["_law_own", "_law_n"] ["_law_own", "_law_n"] (defScope s__law_in) := C8.fnScope_by (by decide +kernel)
theorem fn__law_in (T : TT K mg) : ∃ fd, FunD K "_law_in" "_law_in" (defArgs s__law_in) (defBody s__law_in) (defScope s__law_in) (d__law_in.dvs K) (d__law_in.kws K) (He.fAd K ("_law_in", none)) fd ∧ mg "_law_in" = some (.ref (He.fAd K ("_law_in", none))) ∧ FnD P w K mg base C8.CX0 2 (He.fAd K ("_law_in", none)) fd ["_law_own", "_law_n"] F__law_in := by
  obtain ⟨fd, hf, hm⟩ := T.df d__law_in (List.mem_of_getElem? (i := 7) rfl)
  have SC := sc__law_in
  refine ⟨fd, hf, hm, fnd_of0 (k := 1) hf SC fun cdv B outer s H E hr hgd => ?_⟩
  exact (fss_one (fs_ret (fe_and (fe_cmp op_gtD (fe_var (pv 1)) fe_int) (fe_and (fe_cmp (op_inDD (room_65 hr)) (fe_call (cal__law_gcd T) hr (by omega) hgd (by rfl) C8.pass0 (fa_cons (fe_var (pv 1)) (fa_cons (fe_ix (ix_D (room_65 hr)) (fe_var (pv 0)) fe_int) fa_nil))) (fe_ix (ix_D (room_65 hr)) (fe_var (pv 0)) fe_int)) (fe_one (fe_cmp (op_notInDD (room_65 hr)) (fe_var (pv 1)) (fe_ix (ix_D (room_65 hr)) (fe_var (pv 0)) fe_int)))))))
theorem cal__law_in (T : TT K mg) : CalD P w K mg base C8.CX0 2 "_law_in" 2 [] gAll F__law_in := by
  obtain ⟨fd, hf, hm, hF⟩ := fn__law_in (P := P) (w := w) (base := base) T
  exact ⟨_, fd, _, hF, hm, hf.kp, bdd_all (hf.bindsN fun _ _ _ _ _ _ us hl => match us, hl with | [_, _], _ => rfl)⟩
theorem sc__law_other : FnScope ["_law_spring_here", "_law_own", "_law_whole", "_law_goods", "_law_outs", "_law_extra", "_law_found", "_law_late", "_law_n"] ["_law_spring_here", "_law_own"] (defScope s__law_other) := C8.fnScope_by (by decide +kernel)
theorem fn__law_other (T : TT K mg) : ∃ fd, FunD K "_law_other" "_law_other" (defArgs s__law_other) (defBody s__law_other) (defScope s__law_other) (d__law_other.dvs K) (d__law_other.kws K) (He.fAd K ("_law_other", none)) fd ∧ mg "_law_other" = some (.ref (He.fAd K ("_law_other", none))) ∧ FnD P w K mg base C8.CX0 3 (He.fAd K ("_law_other", none)) fd ["_law_spring_here", "_law_own"] F__law_other := by
  obtain ⟨fd, hf, hm⟩ := T.df d__law_other (List.mem_of_getElem? (i := 8) rfl)
  have SC := sc__law_other
  refine ⟨fd, hf, hm, fnd_of0 (k := 2) hf SC fun cdv B outer s H E hr hgd => ?_⟩
  exact (fss_cons (fs_asg (fe_var (pv 1)) (fg_tup rfl (fgs_cons (fg_name (pg_name (i := 2) SC.nd rfl (.inr rfl))) (fgs_cons (fg_name (pg_name (i := 3) SC.nd rfl (.inl rfl))) (fgs_cons (fg_name (pg_name (i := 4) SC.nd rfl (.inl rfl))) fgs_nil)))))
      (fss_cons (fs_set (i := 5) SC.nd rfl (.inl rfl) (fe_sl (fe_comp (own := [("_law_n", 8)]) rfl SC.nd (fi_range2 (by rfl) (T.fr "range" (List.mem_of_getElem? (i := 9) rfl)) (fa_cons fe_int (fa_cons fe_int fa_nil))) (blkOk_by (by rfl)) (fun _ _ _ _ _ => (fgc_name (pg_name (i := 8) SC.nd rfl (by first | exact .inl rfl | exact .inr rfl)))) (fun _ _ _ _ _ => (fts_one (ft_val (fe_call (cal__law_in T) hr (by omega) hgd (by rfl) C8.pass0 (fa_cons (fe_var (pv 1)) (fa_cons (fe_var (pv 8)) fa_nil)))))) (fun _ _ _ _ _ => (fe_var (pv 8)))) fo_none (fo_some fe_int)))
      (fss_cons (fs_set (i := 6) SC.nd rfl (.inl rfl) (fe_if (ft_cmp (op_neDD (room_64 hr)) (fe_var (pv 5)) (fe_lst fa_nil)) (fe_newL (fa_cons (fe_tup (fa_cons (fe_var (pv 2)) (fa_cons (fe_var (pv 3)) (fa_cons (fe_callTy call_tupleD (by rfl) (T.fr "tuple" (List.mem_of_getElem? (i := 13) rfl)) (by decide +kernel) (fa_cons (fe_callB call_sortIntD (by rfl) (T.fr "sorted" (List.mem_of_getElem? (i := 12) rfl)) (by decide +kernel) (fa_cons (fe_op op_addD (fe_callTy call_listD (by rfl) (T.fr "list" (List.mem_of_getElem? (i := 7) rfl)) (by decide +kernel) (fa_cons (fe_var (pv 4)) fa_nil)) (fe_var (pv 5))) fa_nil)) fa_nil)) fa_nil)))) fa_nil)) (fe_newL fa_nil)))
      (fss_cons (fs_if (ft_cmp (op_neDD (room_64 hr)) (fe_var (pv 4)) (fe_tup fa_nil)) (fss_one (fs_expr (fe_mut mut_append (fe_var (pv 6)) (fa_cons (fe_tup (fa_cons (fe_var (pv 2)) (fa_cons (fe_var (pv 3)) (fa_cons (fe_sl (fe_var (pv 4)) (fo_some fe_int) fo_none) fa_nil)))) fa_nil)))) fss_nil)
      (fss_cons (fs_if (PW.pt (fw_and (ft_cmp op_gtD (fe_callB call_lenD (by rfl) (T.fr "len" (List.mem_of_getElem? (i := 6) rfl)) (by decide +kernel) (fa_cons (fe_var (pv 3)) fa_nil)) fe_int) (fw_and1 (ft_cmp op_ltD (fe_ix (ix_D (room_65 hr)) (fe_var (pv 3)) fe_int) (fe_var (pv 2)))))) (fss_cons (fs_set (i := 7) SC.nd rfl (.inr rfl) (fe_sl (fe_var (pv 3)) (fo_some fe_int) fo_none))
      (fss_one (fs_expr (fe_mut mut_append (fe_var (pv 6)) (fa_cons (fe_tup (fa_cons (fe_var (pv 2)) (fa_cons (fe_var (pv 7)) (fa_cons (fe_callTy call_tupleD (by rfl) (T.fr "tuple" (List.mem_of_getElem? (i := 13) rfl)) (by decide +kernel) (fa_cons (fe_comp (own := [("_law_n", 8)]) rfl SC.nd (fi_seq (fe_var (pv 4))) (blkOk_by (by rfl)) (fun _ _ _ _ _ => (fgc_name (pg_name (i := 8) SC.nd rfl (by first | exact .inl rfl | exact .inr rfl)))) (fun _ _ _ _ _ => (fts_one (ft_cmp (op_inDD (room_65 hr)) (fe_call (cal__law_gcd T) hr (by omega) hgd (by rfl) C8.pass0 (fa_cons (fe_var (pv 8)) (fa_cons (fe_var (pv 2)) fa_nil))) (fe_var (pv 7))))) (fun _ _ _ _ _ => (fe_var (pv 8)))) fa_nil)) fa_nil)))) fa_nil))))) fss_nil)
      (fss_one (fs_ret (fe_var (pv 6)))))))))
theorem cal__law_other (T : TT K mg) : CalD P w K mg base C8.CX0 3 "_law_other" 2 [] gAll F__law_other := by
  obtain ⟨fd, hf, hm, hF⟩ := fn__law_other (P := P) (w := w) (base := base) T
  exact ⟨_, fd, _, hF, hm, hf.kp, bdd_all (hf.bindsN fun _ _ _ _ _ _ us hl => match us, hl with | [_, _], _ => rfl)⟩
theorem sc__law_wrapped : FnScope ["_law_spring_here", "_law_own", "_law_whole", "_law_parts", "_law_d"] ["_law_spring_here", "_law_own"] (defScope s__law_wrapped) := C8.fnScope_by (by decide +kernel)
theorem fn__law_wrapped (T : TT K mg) : ∃ fd, FunD K "_law_wrapped" "_law_wrapped" (defArgs s__law_wrapped) (defBody s__law_wrapped) (defScope s__law_wrapped) (d__law_wrapped.dvs K) (d__law_wrapped.kws K) (He.fAd K ("_law_wrapped", none)) fd ∧ mg "_law_wrapped" = some (.ref (He.fAd K ("_law_wrapped", none))) ∧ FnD P w K mg base C8.CX0 3 (He.fAd K ("_law_wrapped", none)) fd ["_law_spring_here", "_law_own"] F__law_wrapped := by
  obtain ⟨fd, hf, hm⟩ := T.df d__law_wrapped (List.mem_of_getElem? (i := 9) rfl)
  have SC := sc__law_wrapped
  refine ⟨fd, hf, hm, fnd_of0 (k := 2) hf SC fun cdv B outer s H E hr hgd => ?_⟩
  exact (fss_cons (fs_set (i := 2) SC.nd rfl (.inr rfl) (fe_op op_mulD (fe_ix (ix_D (room_65 hr)) (fe_var (pv 1)) fe_int) (fe_call (cal__law_pick T) hr (by omega) hgd (by rfl) C8.pass0 (fa_cons (fe_var (pv 0)) (fa_cons (fe_lst (fa_cons fe_int (fa_cons fe_int (fa_cons fe_int (fa_cons fe_int fa_nil))))) fa_nil)))))
      (fss_cons (fs_setComp (i := 3) (own := [("_law_d", 4)]) rfl SC.nd rfl rfl (by rfl) (fi_range2 (by rfl) (T.fr "range" (List.mem_of_getElem? (i := 9) rfl)) (fa_cons fe_int (fa_cons (fe_op op_addD (fe_var (pv 2)) fe_int) fa_nil))) (blkOk_by (by rfl)) (fun _ _ _ _ _ => (fgc_name (pg_name (i := 4) SC.nd rfl (by first | exact .inl rfl | exact .inr rfl)))) (fun _ _ _ _ _ => (fts_one (ft_cmp (op_eqDD (room_64 hr)) (fe_op op_modD (fe_callTy call_intD (by rfl) (T.fr "int" (List.mem_of_getElem? (i := 4) rfl)) (by decide +kernel) (fa_cons (fe_var (pv 2)) fa_nil)) (fe_var (pv 4))) fe_int))) (fun _ _ _ _ _ => (fe_var (pv 4))))
      (fss_one (fs_ret (fe_tup (fa_cons (fe_var (pv 2)) (fa_cons (fe_callTy call_tupleD (by rfl) (T.fr "tuple" (List.mem_of_getElem? (i := 13) rfl)) (by decide +kernel) (fa_cons (fe_comp (own := [("_law_d", 4)]) rfl SC.nd (fi_seq (fe_var (pv 3))) (blkOk_by (by rfl)) (fun _ _ _ _ _ => (fgc_name (pg_name (i := 4) SC.nd rfl (by first | exact .inl rfl | exact .inr rfl)))) (fun _ _ _ _ _ => (fts_one (ft_cmp (op_inDD (room_65 hr)) (fe_call (cal__law_gcd T) hr (by omega) hgd (by rfl) C8.pass0 (fa_cons (fe_var (pv 4)) (fa_cons (fe_ix (ix_D (room_65 hr)) (fe_var (pv 1)) fe_int) fa_nil))) (fe_ix (ix_D (room_65 hr)) (fe_var (pv 1)) fe_int)))) (fun _ _ _ _ _ => (fe_var (pv 4)))) fa_nil)) (fa_cons (fe_ix (ix_D (room_65 hr)) (fe_var (pv 1)) fe_int) fa_nil))))))))
theorem cal__law_wrapped (T : TT K mg) : CalD P w K mg base C8.CX0 3 "_law_wrapped" 2 [] gAll F__law_wrapped := by
  obtain ⟨fd, hf, hm, hF⟩ := fn__law_wrapped (P := P) (w := w) (base := base) T
  exact ⟨_, fd, _, hF, hm, hf.kp, bdd_all (hf.bindsN fun _ _ _ _ _ _ us hl => match us, hl with | [_, _], _ => rfl)⟩
theorem sc__law_told : FnScope ["_law_own", "_law_most", "_law_inside", "_law_powers", "_law_power", "_law_e", "_law_ends", "_law_n"] ["_law_own"] (defScope s__law_told) := C8.fnScope_by (by decide +kernel)
theorem fn__law_told (T : TT K mg) : ∃ fd, FunD K "_law_told" "_law_told" (defArgs s__law_told) (defBody s__law_told) (defScope s__law_told) (d__law_told.dvs K) (d__law_told.kws K) (He.fAd K ("_law_told", none)) fd ∧ mg "_law_told" = some (.ref (He.fAd K ("_law_told", none))) ∧ FnD P w K mg base C8.CX0 3 (He.fAd K ("_law_told", none)) fd ["_law_own"] F__law_told := by
  obtain ⟨fd, hf, hm⟩ := T.df d__law_told (List.mem_of_getElem? (i := 10) rfl)
  have SC := sc__law_told
  refine ⟨fd, hf, hm, fnd_of0 (k := 2) hf SC fun cdv B outer s H E hr hgd => ?_⟩
  exact (fss_cons (fs_set (i := 1) SC.nd rfl (.inl rfl) (fe_op op_addD (fe_op op_addD (fe_callB (call_maxD rfl) (by rfl) (T.fr "max" (List.mem_of_getElem? (i := 8) rfl)) (by decide +kernel) (fa_cons (fe_op op_addD (fe_lst (fa_cons fe_int fa_nil)) (fe_callTy call_listD (by rfl) (T.fr "list" (List.mem_of_getElem? (i := 7) rfl)) (by decide +kernel) (fa_cons (fe_ix (ix_D (room_65 hr)) (fe_var (pv 0)) fe_int) fa_nil))) fa_nil)) (fe_op op_mulD fe_int (fe_ix (ix_D (room_65 hr)) (fe_var (pv 0)) fe_int))) fe_int))
      (fss_cons (fs_setComp (i := 2) (own := [("_law_n", 7)]) rfl SC.nd rfl rfl (by rfl) (fi_range2 (by rfl) (T.fr "range" (List.mem_of_getElem? (i := 9) rfl)) (fa_cons fe_int (fa_cons (fe_var (pv 1)) fa_nil))) (blkOk_by (by rfl)) (fun _ _ _ _ _ => (fgc_name (pg_name (i := 7) SC.nd rfl (by first | exact .inl rfl | exact .inr rfl)))) (fun _ _ _ _ _ => (fts_one (ft_val (fe_call (cal__law_in T) hr (by omega) hgd (by rfl) C8.pass0 (fa_cons (fe_var (pv 0)) (fa_cons (fe_var (pv 7)) fa_nil)))))) (fun _ _ _ _ _ => (fe_var (pv 7))))
      (fss_cons (fs_par (i := 3) (j := 4) rfl SC.nd rfl rfl (by decide) rfl rfl (fa_cons (fe_newL fa_nil) (fa_cons fe_int fa_nil)) (by rfl))
      (fss_cons (fs_for PassesOwn.never rfl (fi_range1 (by rfl) (T.fr "range" (List.mem_of_getElem? (i := 9) rfl)) (fa_cons fe_int fa_nil)) (fgw_n (fg_name (pg_name (i := 5) SC.nd rfl (.inl rfl)))) (fss_cons (fs_expr (fe_mut mut_extendF (fe_var (pv 3)) (fa_cons (fe_if (ft_val (fe_call (cal__law_in T) hr (by omega) hgd (by rfl) C8.pass0 (fa_cons (fe_var (pv 0)) (fa_cons (fe_var (pv 4)) fa_nil)))) (fe_lst (fa_cons (fe_var (pv 5)) fa_nil)) (fe_lst fa_nil)) fa_nil)))
      (fss_one (fs_set (i := 4) SC.nd rfl (.inl rfl) (fe_op op_mulD (fe_var (pv 4)) fe_int)))))
      (fss_cons (fs_set (i := 6) SC.nd rfl (.inl rfl) (fe_if (ft_cmp (op_inDD (room_65 hr)) fe_int (fe_ix (ix_D (room_65 hr)) (fe_var (pv 0)) fe_int)) (fe_op op_addD (fe_callB (call_maxD rfl) (by rfl) (T.fr "max" (List.mem_of_getElem? (i := 8) rfl)) (by decide +kernel) (fa_cons (fe_op op_addD (fe_lst (fa_cons fe_int fa_nil)) (fe_callTy call_listD (by rfl) (T.fr "list" (List.mem_of_getElem? (i := 7) rfl)) (by decide +kernel) (fa_cons (fe_ix (ix_D (room_65 hr)) (fe_var (pv 0)) fe_int) fa_nil))) fa_nil)) fe_int) fe_non))
      (fss_one (fs_ret (fe_lst (fa_cons (fe_if (ft_cmp (op_neDD (room_64 hr)) (fe_var (pv 2)) (fe_lst fa_nil)) (fe_ix (ix_D (room_65 hr)) (fe_var (pv 2)) fe_int) fe_non) (fa_cons (fe_if (ft_cmp (op_neDD (room_64 hr)) (fe_var (pv 3)) (fe_lst fa_nil)) (fe_ix (ix_D (room_65 hr)) (fe_var (pv 3)) fe_int) fe_non) (fa_cons (fe_var (pv 6)) (fa_cons (fe_sl (fe_var (pv 2)) fo_none (fo_some fe_int)) fa_nil))))))))))))
theorem cal__law_told (T : TT K mg) : CalD P w K mg base C8.CX0 3 "_law_told" 1 [] gAll F__law_told := by
  obtain ⟨fd, hf, hm, hF⟩ := fn__law_told (P := P) (w := w) (base := base) T
  exact ⟨_, fd, _, hF, hm, hf.kp, bdd_all (hf.bindsN fun _ _ _ _ _ _ us hl => match us, hl with | [_], _ => rfl)⟩
theorem sc_require_given : FnScope ["is_given", "name", "at"] ["is_given", "name", "at"] (defScope s_require_given) := C8.fnScope_by (by decide +kernel)
theorem fn_require_given (T : TT K mg) : ∃ fd, FunD K "require_given" "require_given" (defArgs s_require_given) (defBody s_require_given) (defScope s_require_given) (d_require_given.dvs K) (d_require_given.kws K) (He.fAd K ("require_given", none)) fd ∧ mg "require_given" = some (.ref (He.fAd K ("require_given", none))) ∧ FnD P w K mg base C8.CX0 1 (He.fAd K ("require_given", none)) fd ["is_given", "name", "at"] F_require_given := by
  obtain ⟨fd, hf, hm⟩ := T.df d_require_given (List.mem_of_getElem? (i := 11) rfl)
  have SC := sc_require_given
  refine ⟨fd, hf, hm, fnd_of0 (k := 0) hf SC fun cdv B outer s H E hr hgd => ?_⟩
  exact (fss_one (fs_if (ft_not (ft_val (fe_var (pv 0)))) (fss_one fs_no) fss_nil))
theorem cal_require_given_2 (T : TT K mg) : CalD P w K mg base C8.CX0 1 "require_given" 2 [] (gDef [.int (-1)]) F_require_given := by
  obtain ⟨fd, hf, hm, hF⟩ := fn_require_given (P := P) (w := w) (base := base) T
  exact ⟨_, fd, _, hF, hm, hf.kp, bdd_def 2 (hf.binds1 2 0 (by simp [d_require_given, He.DefD.dvs]) (by rfl) fun _ _ _ _ _ _ _ us its h1 h2 => match us, its, h1, h2 with | [_, _], [_], _, _ => ⟨_, rfl, rfl⟩) (fun G A => (.cons (.int _) .nil)) rfl⟩
theorem sc_leasts_of : FnScope ["divisors", "one", "least"] ["divisors"] (defScope s_leasts_of) := C8.fnScope_by (by decide +kernel)
theorem fn_leasts_of (T : TT K mg) : ∃ fd, FunD K "leasts_of" "leasts_of" (defArgs s_leasts_of) (defBody s_leasts_of) (defScope s_leasts_of) (d_leasts_of.dvs K) (d_leasts_of.kws K) (He.fAd K ("leasts_of", none)) fd ∧ mg "leasts_of" = some (.ref (He.fAd K ("leasts_of", none))) ∧ FnD P w K mg base C8.CX0 1 (He.fAd K ("leasts_of", none)) fd ["divisors"] F_leasts_of := by
  obtain ⟨fd, hf, hm⟩ := T.df d_leasts_of (List.mem_of_getElem? (i := 12) rfl)
  have SC := sc_leasts_of
  refine ⟨fd, hf, hm, fnd_of0 (k := 0) hf SC fun cdv B outer s H E hr hgd => ?_⟩
  exact (fss_one (fs_ret (fe_comp (own := [("one", 1)]) rfl SC.nd (fi_seq (fe_var (pv 0))) (blkOk_by (by rfl)) (fun _ _ _ _ _ => (fgc_name (pg_name (i := 1) SC.nd rfl (by first | exact .inl rfl | exact .inr rfl)))) (fun _ _ _ _ _ => (fts_one (ft_not (ft_val (fe_callB (call_anyD rfl) (by rfl) (T.fr "any" (List.mem_of_getElem? (i := 1) rfl)) (by decide +kernel) (fa_cons (fe_comp (own := [("least", 2)]) rfl SC.nd (fi_seq (fe_var (pv 0))) (blkOk_by (by rfl)) (fun _ _ _ _ _ => (fgc_name (pg_name (i := 2) SC.nd rfl (by first | exact .inl rfl | exact .inr rfl)))) (fun _ _ _ _ _ => fts_nil) (fun _ _ _ _ _ => (fe_and (fe_cmp op_ltD (fe_var (pv 2)) (fe_var (pv 1))) (fe_one (fe_cmp (op_eqDD (room_64 hr)) (fe_op op_modD (fe_callTy call_intD (by rfl) (T.fr "int" (List.mem_of_getElem? (i := 4) rfl)) (by decide +kernel) (fa_cons (fe_var (pv 1)) fa_nil)) (fe_var (pv 2))) fe_int))))) fa_nil)))))) (fun _ _ _ _ _ => (fe_var (pv 1))))))
theorem cal_leasts_of (T : TT K mg) : CalD P w K mg base C8.CX0 1 "leasts_of" 1 [] gAll F_leasts_of := by
  obtain ⟨fd, hf, hm, hF⟩ := fn_leasts_of (P := P) (w := w) (base := base) T
  exact ⟨_, fd, _, hF, hm, hf.kp, bdd_all (hf.bindsN fun _ _ _ _ _ _ us hl => match us, hl with | [_], _ => rfl)⟩
theorem sc_common_divisor : FnScope ["one", "other"] ["one", "other"] (defScope s_common_divisor) := C8.fnScope_by (by decide +kernel)
theorem fn_common_divisor (T : TT K mg) : ∃ fd, FunD K "common_divisor" "common_divisor" (defArgs s_common_divisor) (defBody s_common_divisor) (defScope s_common_divisor) (d_common_divisor.dvs K) (d_common_divisor.kws K) (He.fAd K ("common_divisor", none)) fd ∧ mg "common_divisor" = some (.ref (He.fAd K ("common_divisor", none))) ∧ FnD P w K mg base C8.CX0 1 (He.fAd K ("common_divisor", none)) fd ["one", "other"] F_common_divisor := by
  obtain ⟨fd, hf, hm⟩ := T.df d_common_divisor (List.mem_of_getElem? (i := 13) rfl)
  have SC := sc_common_divisor
  refine ⟨fd, hf, hm, fnd_of0 (k := 0) hf SC fun cdv B outer s H E hr hgd => ?_⟩
  exact (fss_cons (fs_while PassesOwn.never (ft_cmp op_gtD (fe_var (pv 1)) fe_int) (fss_one (fs_par (i := 0) (j := 1) rfl SC.nd rfl rfl (by decide) rfl rfl (fa_cons (fe_var (pv 1)) (fa_cons (fe_op op_modD (fe_var (pv 0)) (fe_var (pv 1))) fa_nil)) (by rfl))))
      (fss_one (fs_ret (fe_var (pv 0)))))
theorem cal_common_divisor (T : TT K mg) : CalD P w K mg base C8.CX0 1 "common_divisor" 2 [] gAll F_common_divisor := by
  obtain ⟨fd, hf, hm, hF⟩ := fn_common_divisor (P := P) (w := w) (base := base) T
  exact ⟨_, fd, _, hF, hm, hf.kp, bdd_all (hf.bindsN fun _ _ _ _ _ _ us hl => match us, hl with | [_, _], _ => rfl)⟩
theorem sc_lcm_of : FnScope ["numbers", "whole", "number"] ["numbers"] (defScope s_lcm_of) := C8.fnScope_by (by decide +kernel)
theorem fn_lcm_of (T : TT K mg) : ∃ fd, FunD K "lcm_of" "lcm_of" (defArgs s_lcm_of) (defBody s_lcm_of) (defScope s_lcm_of) (d_lcm_of.dvs K) (d_lcm_of.kws K) (He.fAd K ("lcm_of", none)) fd ∧ mg "lcm_of" = some (.ref (He.fAd K ("lcm_of", none))) ∧ FnD P w K mg base C8.CX0 2 (He.fAd K ("lcm_of", none)) fd ["numbers"] F_lcm_of := by
  obtain ⟨fd, hf, hm⟩ := T.df d_lcm_of (List.mem_of_getElem? (i := 14) rfl)
  have SC := sc_lcm_of
  refine ⟨fd, hf, hm, fnd_of0 (k := 1) hf SC fun cdv B outer s H E hr hgd => ?_⟩
  exact (fss_cons (fs_set (i := 1) SC.nd rfl (.inl rfl) fe_int)
      (fss_cons (fs_for PassesOwn.never rfl (fi_seq (fe_var (pv 0))) (fgw_n (fg_name (pg_name (i := 2) SC.nd rfl (.inl rfl)))) (fss_one (fs_set (i := 1) SC.nd rfl (.inl rfl) (fe_op op_fdivD (fe_op op_mulD (fe_var (pv 1)) (fe_var (pv 2))) (fe_call (cal_common_divisor T) hr (by omega) hgd (by rfl) C8.pass0 (fa_cons (fe_var (pv 1)) (fa_cons (fe_var (pv 2)) fa_nil)))))))
      (fss_one (fs_ret (fe_var (pv 1))))))
theorem cal_lcm_of (T : TT K mg) : CalD P w K mg base C8.CX0 2 "lcm_of" 1 [] gAll F_lcm_of := by
  obtain ⟨fd, hf, hm, hF⟩ := fn_lcm_of (P := P) (w := w) (base := base) T
  exact ⟨_, fd, _, hF, hm, hf.kp, bdd_all (hf.bindsN fun _ _ _ _ _ _ us hl => match us, hl with | [_], _ => rfl)⟩
theorem sc_root_above : FnScope ["number", "root"] ["number"] (defScope s_root_above) := C8.fnScope_by (by decide +kernel)
theorem fn_root_above (T : TT K mg) : ∃ fd, FunD K "root_above" "root_above" (defArgs s_root_above) (defBody s_root_above) (defScope s_root_above) (d_root_above.dvs K) (d_root_above.kws K) (He.fAd K ("root_above", none)) fd ∧ mg "root_above" = some (.ref (He.fAd K ("root_above", none))) ∧ FnD P w K mg base C8.CX0 1 (He.fAd K ("root_above", none)) fd ["number"] F_root_above := by
  obtain ⟨fd, hf, hm⟩ := T.df d_root_above (List.mem_of_getElem? (i := 15) rfl)
  have SC := sc_root_above
  refine ⟨fd, hf, hm, fnd_of0 (k := 0) hf SC fun cdv B outer s H E hr hgd => ?_⟩
  exact (fss_cons (fs_set (i := 1) SC.nd rfl (.inl rfl) fe_int)
      (fss_cons (fs_while PassesOwn.never (ft_cmp op_ltD (fe_op op_mulD (fe_var (pv 1)) (fe_var (pv 1))) (fe_var (pv 0))) (fss_one (fs_set (i := 1) SC.nd rfl (.inl rfl) (fe_op op_addD (fe_var (pv 1)) fe_int))))
      (fss_one (fs_ret (fe_var (pv 1))))))
theorem cal_root_above (T : TT K mg) : CalD P w K mg base C8.CX0 1 "root_above" 1 [] gAll F_root_above := by
  obtain ⟨fd, hf, hm, hF⟩ := fn_root_above (P := P) (w := w) (base := base) T
  exact ⟨_, fd, _, hF, hm, hf.kp, bdd_all (hf.bindsN fun _ _ _ _ _ _ us hl => match us, hl with | [_], _ => rfl)⟩
theorem sc_divisors_of : FnScope ["number", "low", "one"] ["number"] (defScope s_divisors_of) := C8.fnScope_by (by decide +kernel)
theorem fn_divisors_of (T : TT K mg) : ∃ fd, FunD K "divisors_of" "divisors_of" (defArgs s_divisors_of) (defBody s_divisors_of) (defScope s_divisors_of) (d_divisors_of.dvs K) (d_divisors_of.kws K) (He.fAd K ("divisors_of", none)) fd ∧ mg "divisors_of" = some (.ref (He.fAd K ("divisors_of", none))) ∧ FnD P w K mg base C8.CX0 2 (He.fAd K ("divisors_of", none)) fd ["number"] F_divisors_of := by
  obtain ⟨fd, hf, hm⟩ := T.df d_divisors_of (List.mem_of_getElem? (i := 16) rfl)
  have SC := sc_divisors_of
  refine ⟨fd, hf, hm, fnd_of0 (k := 1) hf SC fun cdv B outer s H E hr hgd => ?_⟩
  exact (fss_cons (fs_setComp (i := 1) (own := [("one", 2)]) rfl SC.nd rfl rfl (by rfl) (fi_range2 (by rfl) (T.fr "range" (List.mem_of_getElem? (i := 9) rfl)) (fa_cons fe_int (fa_cons (fe_op op_addD (fe_call (cal_root_above T) hr (by omega) hgd (by rfl) C8.pass0 (fa_cons (fe_var (pv 0)) fa_nil)) fe_int) fa_nil))) (blkOk_by (by rfl)) (fun _ _ _ _ _ => (fgc_name (pg_name (i := 2) SC.nd rfl (by first | exact .inl rfl | exact .inr rfl)))) (fun _ _ _ _ _ => (fts_one (ft_cmp (op_eqDD (room_64 hr)) (fe_op op_modD (fe_callTy call_intD (by rfl) (T.fr "int" (List.mem_of_getElem? (i := 4) rfl)) (by decide +kernel) (fa_cons (fe_var (pv 0)) fa_nil)) (fe_var (pv 2))) fe_int))) (fun _ _ _ _ _ => (fe_var (pv 2))))
      (fss_one (fs_ret (fe_sortSetB rfl (by rfl) (T.fr "sorted" (List.mem_of_getElem? (i := 12) rfl)) (by decide +kernel) (by rfl) (T.fr "set" (List.mem_of_getElem? (i := 11) rfl)) (by decide +kernel) (fe_op op_addD (fe_var (pv 1)) (fe_comp (own := [("one", 2)]) rfl SC.nd (fi_seq (fe_var (pv 1))) (blkOk_by (by rfl)) (fun _ _ _ _ _ => (fgc_name (pg_name (i := 2) SC.nd rfl (by first | exact .inl rfl | exact .inr rfl)))) (fun _ _ _ _ _ => fts_nil) (fun _ _ _ _ _ => (fe_op op_fdivD (fe_var (pv 0)) (fe_var (pv 2))))))))))
theorem cal_divisors_of (T : TT K mg) : CalD P w K mg base C8.CX0 2 "divisors_of" 1 [] gAll F_divisors_of := by
  obtain ⟨fd, hf, hm, hF⟩ := fn_divisors_of (P := P) (w := w) (base := base) T
  exact ⟨_, fd, _, hF, hm, hf.kp, bdd_all (hf.bindsN fun _ _ _ _ _ _ us hl => match us, hl with | [_], _ => rfl)⟩
theorem sc_told_form_modulisets : FnScope ["period", "divisors", "exceptions", "leasts", "whole", "late", "kept", "one", "number", "least"] ["period", "divisors", "exceptions"] (defScope s_told_form_modulisets) := C8.fnScope_by (by decide +kernel)
theorem fn_told_form_modulisets (T : TT K mg) : ∃ fd, FunD K "told_form" "told_form" (defArgs s_told_form_modulisets) (defBody s_told_form_modulisets) (defScope s_told_form_modulisets) (d_told_form_modulisets.dvs K) (d_told_form_modulisets.kws K) (He.fAd K ("told_form_modulisets", none)) fd ∧ mg "told_form_modulisets" = some (.ref (He.fAd K ("told_form_modulisets", none))) ∧ FnD P w K mg base C8.CX0 3 (He.fAd K ("told_form_modulisets", none)) fd ["period", "divisors", "exceptions"] F_told_form_modulisets := by
  obtain ⟨fd, hf⟩ := T.mt d_told_form_modulisets (List.mem_of_getElem? (i := 0) rfl)
  have SC := sc_told_form_modulisets
  refine ⟨fd, hf, T.al "told_form_modulisets" (by decide), fnd_of0 (k := 2) hf SC fun cdv B outer s H E hr hgd => ?_⟩
  exact (fss_cons (fs_set (i := 3) SC.nd rfl (.inr rfl) (fe_call (cal_leasts_of T) hr (by omega) hgd (by rfl) C8.pass0 (fa_cons (fe_var (pv 1)) fa_nil)))
      (fss_cons (fs_set (i := 4) SC.nd rfl (.inr rfl) (fe_call (cal_lcm_of T) hr (by omega) hgd (by rfl) C8.pass0 (fa_cons (fe_var (pv 3)) fa_nil)))
      (fss_cons (fs_set (i := 5) SC.nd rfl (.inr rfl) (fe_comp (own := [("one", 7)]) rfl SC.nd (fi_seq (fe_call (cal_divisors_of T) hr (by omega) hgd (by rfl) C8.pass0 (fa_cons (fe_var (pv 4)) fa_nil))) (blkOk_by (by rfl)) (fun _ _ _ _ _ => (fgc_name (pg_name (i := 7) SC.nd rfl (by first | exact .inl rfl | exact .inr rfl)))) (fun _ _ _ _ _ => (fts_one (ft_val (fe_callB (call_anyD rfl) (by rfl) (T.fr "any" (List.mem_of_getElem? (i := 1) rfl)) (by decide +kernel) (fa_cons (fe_comp (own := [("least", 9)]) rfl SC.nd (fi_seq (fe_var (pv 3))) (blkOk_by (by rfl)) (fun _ _ _ _ _ => (fgc_name (pg_name (i := 9) SC.nd rfl (by first | exact .inl rfl | exact .inr rfl)))) (fun _ _ _ _ _ => fts_nil) (fun _ _ _ _ _ => (fe_cmp (op_eqDD (room_64 hr)) (fe_op op_modD (fe_callTy call_intD (by rfl) (T.fr "int" (List.mem_of_getElem? (i := 4) rfl)) (by decide +kernel) (fa_cons (fe_var (pv 7)) fa_nil)) (fe_var (pv 9))) fe_int))) fa_nil))))) (fun _ _ _ _ _ => (fe_var (pv 7)))))
      (fss_cons (fs_setComp (i := 6) (own := [("number", 8)]) rfl SC.nd rfl rfl (by rfl) (fi_seq (fe_var (pv 2))) (blkOk_by (by rfl)) (fun _ _ _ _ _ => (fgc_name (pg_name (i := 8) SC.nd rfl (by first | exact .inl rfl | exact .inr rfl)))) (fun _ _ _ _ _ => (fts_one (ft_cmp (op_inDD (room_65 hr)) (fe_call (cal_common_divisor T) hr (by omega) hgd (by rfl) C8.pass0 (fa_cons (fe_var (pv 8)) (fa_cons (fe_var (pv 4)) fa_nil))) (fe_var (pv 5))))) (fun _ _ _ _ _ => (fe_var (pv 8))))
      (fss_one (fs_ret (fe_tup (fa_cons (fe_var (pv 4)) (fa_cons (fe_callTy call_tupleD (by rfl) (T.fr "tuple" (List.mem_of_getElem? (i := 13) rfl)) (by decide +kernel) (fa_cons (fe_var (pv 5)) fa_nil)) (fa_cons (fe_callTy call_tupleD (by rfl) (T.fr "tuple" (List.mem_of_getElem? (i := 13) rfl)) (by decide +kernel) (fa_cons (fe_sortSetB rfl (by rfl) (T.fr "sorted" (List.mem_of_getElem? (i := 12) rfl)) (by decide +kernel) (by rfl) (T.fr "set" (List.mem_of_getElem? (i := 11) rfl)) (by decide +kernel) (fe_var (pv 6))) fa_nil)) fa_nil))))))))))
theorem cal_told_form_modulisets (T : TT K mg) : CalD P w K mg base C8.CX0 3 "told_form_modulisets" 3 [] gAll F_told_form_modulisets := by
  obtain ⟨fd, hf, hm, hF⟩ := fn_told_form_modulisets (P := P) (w := w) (base := base) T
  exact ⟨_, fd, _, hF, hm, hf.kp, bdd_all (hf.bindsN fun _ _ _ _ _ _ us hl => match us, hl with | [_, _, _], _ => rfl)⟩
theorem sc_is_integer : FnScope ["thing"] ["thing"] (defScope s_is_integer) := C8.fnScope_by (by decide +kernel)
theorem fn_is_integer (T : TT K mg) : ∃ fd, FunD K "is_integer" "is_integer" (defArgs s_is_integer) (defBody s_is_integer) (defScope s_is_integer) (d_is_integer.dvs K) (d_is_integer.kws K) (He.fAd K ("is_integer", none)) fd ∧ mg "is_integer" = some (.ref (He.fAd K ("is_integer", none))) ∧ FnD P w K mg base C8.CX0 1 (He.fAd K ("is_integer", none)) fd ["thing"] F_is_integer := by
  obtain ⟨fd, hf, hm⟩ := T.df d_is_integer (List.mem_of_getElem? (i := 17) rfl)
  have SC := sc_is_integer
  refine ⟨fd, hf, hm, fnd_of0 (k := 0) hf SC fun cdv B outer s H E hr hgd => ?_⟩
  exact (fss_one (fs_ret (fe_and (fe_isi .int (fe_var (pv 0)) (pe_bltn (v := .ty "int") (by rfl) (T.fr "int" (List.mem_of_getElem? (i := 4) rfl)) (by decide +kernel) rfl) (by rfl) (T.fr "isinstance" (List.mem_of_getElem? (i := 5) rfl))) (fe_one (fe_not (fe_isi .bool (fe_var (pv 0)) (pe_bltn (v := .ty "bool") (by rfl) (T.fr "bool" (List.mem_of_getElem? (i := 2) rfl)) (by decide +kernel) rfl) (by rfl) (T.fr "isinstance" (List.mem_of_getElem? (i := 5) rfl))))))))
theorem cal_is_integer (T : TT K mg) : CalD P w K mg base C8.CX0 1 "is_integer" 1 [] gAll F_is_integer := by
  obtain ⟨fd, hf, hm, hF⟩ := fn_is_integer (P := P) (w := w) (base := base) T
  exact ⟨_, fd, _, hF, hm, hf.kp, bdd_all (hf.bindsN fun _ _ _ _ _ _ us hl => match us, hl with | [_], _ => rfl)⟩
theorem sc_is_number : FnScope ["thing"] ["thing"] (defScope s_is_number) := C8.fnScope_by (by decide +kernel)
theorem fn_is_number (T : TT K mg) : ∃ fd, FunD K "is_number" "is_number" (defArgs s_is_number) (defBody s_is_number) (defScope s_is_number) (d_is_number.dvs K) (d_is_number.kws K) (He.fAd K ("is_number", none)) fd ∧ mg "is_number" = some (.ref (He.fAd K ("is_number", none))) ∧ FnD P w K mg base C8.CX0 2 (He.fAd K ("is_number", none)) fd ["thing"] F_is_number := by
  obtain ⟨fd, hf, hm⟩ := T.df d_is_number (List.mem_of_getElem? (i := 18) rfl)
  have SC := sc_is_number
  refine ⟨fd, hf, hm, fnd_of0 (k := 1) hf SC fun cdv B outer s H E hr hgd => ?_⟩
  exact (fss_one (fs_ret (fe_and (fe_call (cal_is_integer T) hr (by omega) hgd (by rfl) C8.pass0 (fa_cons (fe_var (pv 0)) fa_nil)) (fe_one (fe_cmp op_geD (fe_var (pv 0)) fe_int)))))
theorem cal_is_number (T : TT K mg) : CalD P w K mg base C8.CX0 2 "is_number" 1 [] gAll F_is_number := by
  obtain ⟨fd, hf, hm, hF⟩ := fn_is_number (P := P) (w := w) (base := base) T
  exact ⟨_, fd, _, hF, hm, hf.kp, bdd_all (hf.bindsN fun _ _ _ _ _ _ us hl => match us, hl with | [_], _ => rfl)⟩
theorem sc_is_modulus : FnScope ["thing"] ["thing"] (defScope s_is_modulus) := C8.fnScope_by (by decide +kernel)
theorem fn_is_modulus (T : TT K mg) : ∃ fd, FunD K "is_modulus" "is_modulus" (defArgs s_is_modulus) (defBody s_is_modulus) (defScope s_is_modulus) (d_is_modulus.dvs K) (d_is_modulus.kws K) (He.fAd K ("is_modulus", none)) fd ∧ mg "is_modulus" = some (.ref (He.fAd K ("is_modulus", none))) ∧ FnD P w K mg base C8.CX0 3 (He.fAd K ("is_modulus", none)) fd ["thing"] F_is_modulus := by
  obtain ⟨fd, hf, hm⟩ := T.df d_is_modulus (List.mem_of_getElem? (i := 19) rfl)
  have SC := sc_is_modulus
  refine ⟨fd, hf, hm, fnd_of0 (k := 2) hf SC fun cdv B outer s H E hr hgd => ?_⟩
  exact (fss_one (fs_ret (fe_and (fe_call (cal_is_number T) hr (by omega) hgd (by rfl) C8.pass0 (fa_cons (fe_var (pv 0)) fa_nil)) (fe_one (fe_cmp op_gtD (fe_var (pv 0)) fe_int)))))
theorem cal_is_modulus (T : TT K mg) : CalD P w K mg base C8.CX0 3 "is_modulus" 1 [] gAll F_is_modulus := by
  obtain ⟨fd, hf, hm, hF⟩ := fn_is_modulus (P := P) (w := w) (base := base) T
  exact ⟨_, fd, _, hF, hm, hf.kp, bdd_all (hf.bindsN fun _ _ _ _ _ _ us hl => match us, hl with | [_], _ => rfl)⟩
theorem sc_is_rising : FnScope ["some", "one", "other"] ["some"] (defScope s_is_rising) := C8.fnScope_by (by decide +kernel)
theorem fn_is_rising (T : TT K mg) : ∃ fd, FunD K "is_rising" "is_rising" (defArgs s_is_rising) (defBody s_is_rising) (defScope s_is_rising) (d_is_rising.dvs K) (d_is_rising.kws K) (He.fAd K ("is_rising", none)) fd ∧ mg "is_rising" = some (.ref (He.fAd K ("is_rising", none))) ∧ FnD P w K mg base C8.CX0 1 (He.fAd K ("is_rising", none)) fd ["some"] F_is_rising := by
  obtain ⟨fd, hf, hm⟩ := T.df d_is_rising (List.mem_of_getElem? (i := 20) rfl)
  have SC := sc_is_rising
  refine ⟨fd, hf, hm, fnd_of0 (k := 0) hf SC fun cdv B outer s H E hr hgd => ?_⟩
  exact (fss_one (fs_ret (fe_callB (call_allD rfl) (by rfl) (T.fr "all" (List.mem_of_getElem? (i := 0) rfl)) (by decide +kernel) (fa_cons (fe_comp (own := [("one", 1), ("other", 2)]) rfl SC.nd (fi_zip (by rfl) (T.fr "zip" (List.mem_of_getElem? (i := 14) rfl)) (fa_cons (fe_var (pv 0)) (fa_cons (fe_sl (fe_var (pv 0)) (fo_some fe_int) fo_none) fa_nil))) (blkOk_by (by rfl)) (fun _ _ _ _ _ => (fgc_u rfl (fgcs_cons (fgc_name (pg_name (i := 1) SC.nd rfl (by first | exact .inl rfl | exact .inr rfl))) (fgcs_cons (fgc_name (pg_name (i := 2) SC.nd rfl (by first | exact .inl rfl | exact .inr rfl))) fgcs_nil)))) (fun _ _ _ _ _ => fts_nil) (fun _ _ _ _ _ => (fe_cmp op_ltD (fe_var (pv 1)) (fe_var (pv 2))))) fa_nil))))
theorem cal_is_rising (T : TT K mg) : CalD P w K mg base C8.CX0 1 "is_rising" 1 [] gAll F_is_rising := by
  obtain ⟨fd, hf, hm, hF⟩ := fn_is_rising (P := P) (w := w) (base := base) T
  exact ⟨_, fd, _, hF, hm, hf.kp, bdd_all (hf.bindsN fun _ _ _ _ _ _ us hl => match us, hl with | [_], _ => rfl)⟩
theorem sc_are_moduli_in : FnScope ["thing", "one"] ["thing"] (defScope s_are_moduli_in) := C8.fnScope_by (by decide +kernel)
theorem fn_are_moduli_in (T : TT K mg) : ∃ fd, FunD K "are_moduli_in" "are_moduli_in" (defArgs s_are_moduli_in) (defBody s_are_moduli_in) (defScope s_are_moduli_in) (d_are_moduli_in.dvs K) (d_are_moduli_in.kws K) (He.fAd K ("are_moduli_in", none)) fd ∧ mg "are_moduli_in" = some (.ref (He.fAd K ("are_moduli_in", none))) ∧ FnD P w K mg base C8.CX0 4 (He.fAd K ("are_moduli_in", none)) fd ["thing"] F_are_moduli_in := by
  obtain ⟨fd, hf, hm⟩ := T.df d_are_moduli_in (List.mem_of_getElem? (i := 21) rfl)
  have SC := sc_are_moduli_in
  refine ⟨fd, hf, hm, fnd_of0 (k := 3) hf SC fun cdv B outer s H E hr hgd => ?_⟩
  exact (fss_one (fs_ret (fe_and (fe_isi .tuple (fe_var (pv 0)) (pe_bltn (v := .ty "tuple") (by rfl) (T.fr "tuple" (List.mem_of_getElem? (i := 13) rfl)) (by decide +kernel) rfl) (by rfl) (T.fr "isinstance" (List.mem_of_getElem? (i := 5) rfl))) (fe_and (fe_callB (call_allD rfl) (by rfl) (T.fr "all" (List.mem_of_getElem? (i := 0) rfl)) (by decide +kernel) (fa_cons (fe_comp (own := [("one", 1)]) rfl SC.nd (fi_seq (fe_var (pv 0))) (blkOk_by (by rfl)) (fun _ _ _ _ _ => (fgc_name (pg_name (i := 1) SC.nd rfl (by first | exact .inl rfl | exact .inr rfl)))) (fun _ _ _ _ _ => fts_nil) (fun _ _ _ _ _ => (fe_call (cal_is_modulus T) hr (by omega) hgd (by rfl) C8.pass0 (fa_cons (fe_var (pv 1)) fa_nil)))) fa_nil)) (fe_one (fe_call (cal_is_rising T) hr (by omega) hgd (by rfl) C8.pass0 (fa_cons (fe_var (pv 0)) fa_nil)))))))
theorem cal_are_moduli_in (T : TT K mg) : CalD P w K mg base C8.CX0 4 "are_moduli_in" 1 [] gAll F_are_moduli_in := by
  obtain ⟨fd, hf, hm, hF⟩ := fn_are_moduli_in (P := P) (w := w) (base := base) T
  exact ⟨_, fd, _, hF, hm, hf.kp, bdd_all (hf.bindsN fun _ _ _ _ _ _ us hl => match us, hl with | [_], _ => rfl)⟩
theorem sc_are_closed : FnScope ["period", "thing", "above", "one", "least"] ["period", "thing"] (defScope s_are_closed) := C8.fnScope_by (by decide +kernel)
theorem fn_are_closed (T : TT K mg) : ∃ fd, FunD K "are_closed" "are_closed" (defArgs s_are_closed) (defBody s_are_closed) (defScope s_are_closed) (d_are_closed.dvs K) (d_are_closed.kws K) (He.fAd K ("are_closed", none)) fd ∧ mg "are_closed" = some (.ref (He.fAd K ("are_closed", none))) ∧ FnD P w K mg base C8.CX0 5 (He.fAd K ("are_closed", none)) fd ["period", "thing"] F_are_closed := by
  obtain ⟨fd, hf, hm⟩ := T.df d_are_closed (List.mem_of_getElem? (i := 22) rfl)
  have SC := sc_are_closed
  refine ⟨fd, hf, hm, fnd_of0 (k := 4) hf SC fun cdv B outer s H E hr hgd => ?_⟩
  exact (fss_cons (fs_if (PW.pt (fw_or (ft_not (ft_val (fe_call (cal_are_moduli_in T) hr (by omega) hgd (by rfl) C8.pass0 (fa_cons (fe_var (pv 1)) fa_nil)))) (fw_or1 (ft_not (ft_val (fe_callB (call_allD rfl) (by rfl) (T.fr "all" (List.mem_of_getElem? (i := 0) rfl)) (by decide +kernel) (fa_cons (fe_comp (own := [("one", 3)]) rfl SC.nd (fi_seq (fe_var (pv 1))) (blkOk_by (by rfl)) (fun _ _ _ _ _ => (fgc_name (pg_name (i := 3) SC.nd rfl (by first | exact .inl rfl | exact .inr rfl)))) (fun _ _ _ _ _ => fts_nil) (fun _ _ _ _ _ => (fe_cmp (op_eqDD (room_64 hr)) (fe_op op_modD (fe_callTy call_intD (by rfl) (T.fr "int" (List.mem_of_getElem? (i := 4) rfl)) (by decide +kernel) (fa_cons (fe_var (pv 0)) fa_nil)) (fe_var (pv 3))) fe_int))) fa_nil))))))) (fss_one (fs_ret fe_bl)) fss_nil)
      (fss_cons (fs_setComp (i := 2) (own := [("one", 3)]) rfl SC.nd rfl rfl (by rfl) (fi_seq (fe_call (cal_divisors_of T) hr (by omega) hgd (by rfl) C8.pass0 (fa_cons (fe_var (pv 0)) fa_nil))) (blkOk_by (by rfl)) (fun _ _ _ _ _ => (fgc_name (pg_name (i := 3) SC.nd rfl (by first | exact .inl rfl | exact .inr rfl)))) (fun _ _ _ _ _ => (fts_one (ft_val (fe_callB (call_anyD rfl) (by rfl) (T.fr "any" (List.mem_of_getElem? (i := 1) rfl)) (by decide +kernel) (fa_cons (fe_comp (own := [("least", 4)]) rfl SC.nd (fi_seq (fe_var (pv 1))) (blkOk_by (by rfl)) (fun _ _ _ _ _ => (fgc_name (pg_name (i := 4) SC.nd rfl (by first | exact .inl rfl | exact .inr rfl)))) (fun _ _ _ _ _ => fts_nil) (fun _ _ _ _ _ => (fe_cmp (op_eqDD (room_64 hr)) (fe_op op_modD (fe_callTy call_intD (by rfl) (T.fr "int" (List.mem_of_getElem? (i := 4) rfl)) (by decide +kernel) (fa_cons (fe_var (pv 3)) fa_nil)) (fe_var (pv 4))) fe_int))) fa_nil))))) (fun _ _ _ _ _ => (fe_var (pv 3))))
      (fss_one (fs_ret (fe_cmp (op_eqDD (room_64 hr)) (fe_callTy call_listD (by rfl) (T.fr "list" (List.mem_of_getElem? (i := 7) rfl)) (by decide +kernel) (fa_cons (fe_var (pv 1)) fa_nil)) (fe_var (pv 2)))))))
theorem cal_are_closed (T : TT K mg) : CalD P w K mg base C8.CX0 5 "are_closed" 2 [] gAll F_are_closed := by
  obtain ⟨fd, hf, hm, hF⟩ := fn_are_closed (P := P) (w := w) (base := base) T
  exact ⟨_, fd, _, hF, hm, hf.kp, bdd_all (hf.bindsN fun _ _ _ _ _ _ us hl => match us, hl with | [_, _], _ => rfl)⟩
theorem sc_Moduli___init__ : FnScope ["self", "period", "divisors", "exceptions", "are_right", "one"] ["self", "period", "divisors", "exceptions"] (defScope s_Moduli___init__) := C8.fnScope_by (by decide +kernel)
theorem fn_Moduli___init__ (T : TT K mg) : ∃ fd, FunD K "__init__" "Moduli.__init__" (defArgs s_Moduli___init__) (defBody s_Moduli___init__) (defScope s_Moduli___init__) (d_Moduli___init__.dvs K) (d_Moduli___init__.kws K) (He.fAd K ("Moduli", some "__init__")) fd ∧ FnD P w K mg base C8.CX0 6 (He.fAd K ("Moduli", some "__init__")) fd ["self", "period", "divisors", "exceptions"] F_Moduli___init__ := by
  obtain ⟨fd, hf⟩ := T.mt d_Moduli___init__ (List.mem_of_getElem? (i := 1) rfl)
  have SC := sc_Moduli___init__
  refine ⟨fd, hf, fnd_of0 (k := 5) hf SC fun cdv B outer s H E hr hgd => ?_⟩
  exact (fss_cons (fs_expr (fe_call (cal_require_given_2 T) hr (by omega) hgd (by rfl) C8.pass0 (fa_cons (fe_call (cal_is_modulus T) hr (by omega) hgd (by rfl) C8.pass0 (fa_cons (fe_var (pv 1)) fa_nil)) (fa_cons (fe_str (by decide +kernel)) fa_nil))))
      (fss_cons (fs_expr (fe_call (cal_require_given_2 T) hr (by omega) hgd (by rfl) C8.pass0 (fa_cons (fe_call (cal_are_closed T) hr (by omega) hgd (by rfl) C8.pass0 (fa_cons (fe_var (pv 1)) (fa_cons (fe_var (pv 2)) fa_nil))) (fa_cons (fe_str (by decide +kernel)) fa_nil))))
      (fss_cons (fs_set (i := 4) SC.nd rfl (.inl rfl) (fe_and (fe_call (cal_are_moduli_in T) hr (by omega) hgd (by rfl) C8.pass0 (fa_cons (fe_var (pv 3)) fa_nil)) (fe_one (fe_callB (call_allD rfl) (by rfl) (T.fr "all" (List.mem_of_getElem? (i := 0) rfl)) (by decide +kernel) (fa_cons (fe_comp (own := [("one", 5)]) rfl SC.nd (fi_seq (fe_var (pv 3))) (blkOk_by (by rfl)) (fun _ _ _ _ _ => (fgc_name (pg_name (i := 5) SC.nd rfl (by first | exact .inl rfl | exact .inr rfl)))) (fun _ _ _ _ _ => fts_nil) (fun _ _ _ _ _ => (fe_cmp (op_inDD (room_65 hr)) (fe_call (cal_common_divisor T) hr (by omega) hgd (by rfl) C8.pass0 (fa_cons (fe_var (pv 5)) (fa_cons (fe_var (pv 1)) fa_nil))) (fe_var (pv 2))))) fa_nil)))))
      (fss_cons (fs_expr (fe_call (cal_require_given_2 T) hr (by omega) hgd (by rfl) C8.pass0 (fa_cons (fe_var (pv 4)) (fa_cons (fe_str (by decide +kernel)) fa_nil))))
      (fss_one (fs_fld (all_1 ((T.cl _ (List.mem_of_getElem? (i := 0) rfl)).fs "own_form" (by decide))) (fe_var (pv 0)) (fe_call (cal_told_form_modulisets T) hr (by omega) hgd (by rfl) C8.pass0 (fa_cons (fe_var (pv 1)) (fa_cons (fe_var (pv 2)) (fa_cons (fe_var (pv 3)) fa_nil))))))))))
theorem mak_Moduli___init___3 (T : TT K mg) : MakD P w K mg base C8.CX0 6 "Moduli" 3 [] (gDef []) F_Moduli___init__ := by
  obtain ⟨fd, hf, hF⟩ := fn_Moduli___init__ (P := P) (w := w) (base := base) T
  exact ⟨_, fd, _, hF, (T.cl _ (List.mem_of_getElem? (i := 0) rfl)).mkr rfl, (T.cgl "Moduli" (List.mem_of_getElem? (i := 0) rfl)), bdd_def 4 (hf.binds1 4 3 (by simp [d_Moduli___init__, He.DefD.dvs]) (by rfl) fun _ _ _ _ _ _ _ us its h1 h2 => match us, its, h1, h2 with | [_, _, _, _], [_, _, _], _, _ => ⟨_, rfl, rfl⟩) (fun G A => .nil) rfl⟩
theorem mak_Moduli___init___0_exceptions_divisors_period (T : TT K mg) : MakD P w K mg base C8.CX0 6 "Moduli" 0 ["exceptions", "divisors", "period"] g_Moduli___init___1_exceptions_divisors_period F_Moduli___init__ := by
  obtain ⟨fd, hf, hF⟩ := fn_Moduli___init__ (P := P) (w := w) (base := base) T
  obtain ⟨its0, kb⟩ := hf.kbindsD 1 ["exceptions", "divisors", "period"] (fun us its ws => (((us.drop 0).take 1) ++ (((ws.drop 2).take 1) ++ (((ws.drop 1).take 1) ++ ((ws.drop 0).take 1))))) (by simp [d_Moduli___init__, He.DefD.dvs]) (fun r1 r2 r3 => (((r1.drop 0).take 1).append (((r3.drop 2).take 1).append (((r3.drop 1).take 1).append ((r3.drop 0).take 1))))) (fun _ _ _ _ _ _ _ us its ws h1 h2 h3 => match us, its, ws, h1, h2, h3 with | [_], [_, _, _], [_, _, _], _, _, _ => ⟨_, rfl, by kernel_rfl⟩)
  exact ⟨_, fd, _, hF, (T.cl _ (List.mem_of_getElem? (i := 0) rfl)).mkr rfl, (T.cgl "Moduli" (List.mem_of_getElem? (i := 0) rfl)), bdd_kd kb (fun G A vs zs ds es h1 h2 r1 r2 => match vs, ds, h1, r1 with
    | [_], _, _, (.cons x0 .nil) => match zs, es, h2, r2 with
      | [_, _, _], _, _, (.cons y0 (.cons y1 (.cons y2 .nil))) => (.cons x0 (.cons y2 (.cons y1 (.cons y0 .nil))))) (fun vs zs h1 h2 => match vs, zs, h1, h2 with | [_], [_, _, _], _, _ => rfl)⟩
theorem mak_Moduli___init___0 (T : TT K mg) : MakD P w K mg base C8.CX0 6 "Moduli" 0 [] (gDef [.int 1, .tup [.int 1], .tup []]) F_Moduli___init__ := by
  obtain ⟨fd, hf, hF⟩ := fn_Moduli___init__ (P := P) (w := w) (base := base) T
  exact ⟨_, fd, _, hF, (T.cl _ (List.mem_of_getElem? (i := 0) rfl)).mkr rfl, (T.cgl "Moduli" (List.mem_of_getElem? (i := 0) rfl)), bdd_def 1 (hf.binds1 1 0 (by simp [d_Moduli___init__, He.DefD.dvs]) (by rfl) fun _ _ _ _ _ _ _ us its h1 h2 => match us, its, h1, h2 with | [_], [_, _, _], _, _ => ⟨_, rfl, rfl⟩) (fun G A => (.cons (.int _) (.cons (dfc_dn (T.dfc _ (List.mem_of_getElem? (i := 0) rfl)) G A) (.cons (dfc_dn (T.dfc _ (List.mem_of_getElem? (i := 1) rfl)) G A) .nil)))) rfl⟩
theorem mak_Moduli___init___2 (T : TT K mg) : MakD P w K mg base C8.CX0 6 "Moduli" 2 [] (gDef [.tup []]) F_Moduli___init__ := by
  obtain ⟨fd, hf, hF⟩ := fn_Moduli___init__ (P := P) (w := w) (base := base) T
  exact ⟨_, fd, _, hF, (T.cl _ (List.mem_of_getElem? (i := 0) rfl)).mkr rfl, (T.cgl "Moduli" (List.mem_of_getElem? (i := 0) rfl)), bdd_def 3 (hf.binds1 3 2 (by simp [d_Moduli___init__, He.DefD.dvs]) (by rfl) fun _ _ _ _ _ _ _ us its h1 h2 => match us, its, h1, h2 with | [_, _, _], [_, _, _], _, _ => ⟨_, rfl, rfl⟩) (fun G A => (.cons (dfc_dn (T.dfc _ (List.mem_of_getElem? (i := 1) rfl)) G A) .nil)) rfl⟩
theorem sc_has_modulus : FnScope ["form", "number", "period", "divisors", "exceptions"] ["form", "number"] (defScope s_has_modulus) := C8.fnScope_by (by decide +kernel)
theorem fn_has_modulus (T : TT K mg) : ∃ fd, FunD K "has_modulus" "has_modulus" (defArgs s_has_modulus) (defBody s_has_modulus) (defScope s_has_modulus) (d_has_modulus.dvs K) (d_has_modulus.kws K) (He.fAd K ("has_modulus", none)) fd ∧ mg "has_modulus" = some (.ref (He.fAd K ("has_modulus", none))) ∧ FnD P w K mg base C8.CX0 2 (He.fAd K ("has_modulus", none)) fd ["form", "number"] F_has_modulus := by
  obtain ⟨fd, hf, hm⟩ := T.df d_has_modulus (List.mem_of_getElem? (i := 23) rfl)
  have SC := sc_has_modulus
  refine ⟨fd, hf, hm, fnd_of0 (k := 1) hf SC fun cdv B outer s H E hr hgd => ?_⟩
  exact (fss_cons (fs_asg (fe_var (pv 0)) (fg_tup rfl (fgs_cons (fg_name (pg_name (i := 2) SC.nd rfl (.inl rfl))) (fgs_cons (fg_name (pg_name (i := 3) SC.nd rfl (.inl rfl))) (fgs_cons (fg_name (pg_name (i := 4) SC.nd rfl (.inl rfl))) fgs_nil)))))
      (fss_one (fs_ret (fe_and (fe_cmp (op_inDD (room_65 hr)) (fe_call (cal_common_divisor T) hr (by omega) hgd (by rfl) C8.pass0 (fa_cons (fe_var (pv 1)) (fa_cons (fe_var (pv 2)) fa_nil))) (fe_var (pv 3))) (fe_one (fe_cmp (op_notInDD (room_65 hr)) (fe_var (pv 1)) (fe_var (pv 4))))))))
theorem cal_has_modulus (T : TT K mg) : CalD P w K mg base C8.CX0 2 "has_modulus" 2 [] gAll F_has_modulus := by
  obtain ⟨fd, hf, hm, hF⟩ := fn_has_modulus (P := P) (w := w) (base := base) T
  exact ⟨_, fd, _, hF, hm, hf.kp, bdd_all (hf.bindsN fun _ _ _ _ _ _ us hl => match us, hl with | [_, _], _ => rfl)⟩
theorem sc_Moduli___contains__ : FnScope ["self", "thing"] ["self", "thing"] (defScope s_Moduli___contains__) := C8.fnScope_by (by decide +kernel)
theorem fn_Moduli___contains__ (T : TT K mg) : ∃ fd, FunD K "__contains__" "Moduli.__contains__" (defArgs s_Moduli___contains__) (defBody s_Moduli___contains__) (defScope s_Moduli___contains__) (d_Moduli___contains__.dvs K) (d_Moduli___contains__.kws K) (He.fAd K ("Moduli", some "__contains__")) fd ∧ FnD P w K mg base C8.CX0 4 (He.fAd K ("Moduli", some "__contains__")) fd ["self", "thing"] F_Moduli___contains__ := by
  obtain ⟨fd, hf⟩ := T.mt d_Moduli___contains__ (List.mem_of_getElem? (i := 2) rfl)
  have SC := sc_Moduli___contains__
  refine ⟨fd, hf, fnd_of0 (k := 3) hf SC fun cdv B outer s H E hr hgd => ?_⟩
  exact (fss_one (fs_ret (fe_and (fe_call (cal_is_modulus T) hr (by omega) hgd (by rfl) C8.pass0 (fa_cons (fe_var (pv 1)) fa_nil)) (fe_one (fe_call (cal_has_modulus T) hr (by omega) hgd (by rfl) C8.pass0 (fa_cons (fe_fld (all_1 ((T.cl _ (List.mem_of_getElem? (i := 0) rfl)).fs "own_form" (by decide))) (fe_var (pv 0))) (fa_cons (fe_var (pv 1)) fa_nil)))))))
theorem met_Moduli___contains___1 (T : TT K mg) : MetD P w K mg base C8.CX0 4 "Moduli" "__contains__" 1 [] gAll F_Moduli___contains__ := by
  obtain ⟨fd, hf, hF⟩ := fn_Moduli___contains__ (P := P) (w := w) (base := base) T
  exact ⟨_, fd, _, hF, (T.cl _ (List.mem_of_getElem? (i := 0) rfl)).isi.cl, (T.cl _ (List.mem_of_getElem? (i := 0) rfl)).ms "__contains__" (by decide), fnIn_of hf, bdd_all (hf.bindsN fun _ _ _ _ _ _ us hl => match us, hl with | [_, _], _ => rfl)⟩
theorem sc_multiples_to : FnScope ["leasts", "base", "number", "found", "k", "one", "common"] ["leasts", "base", "number"] (defScope s_multiples_to) := C8.fnScope_by (by decide +kernel)
theorem calr_multiples_to {j : Nat} {F : List D → M D} (h : ∃ fd, FunD K "multiples_to" "multiples_to" (defArgs s_multiples_to) (defBody s_multiples_to) (defScope s_multiples_to) (d_multiples_to.dvs K) (d_multiples_to.kws K) (He.fAd K ("multiples_to", none)) fd ∧ mg "multiples_to" = some (.ref (He.fAd K ("multiples_to", none))) ∧ FnD P w K mg base C8.CX0 j (He.fAd K ("multiples_to", none)) fd ["leasts", "base", "number"] F) : CalD P w K mg base C8.CX0 j "multiples_to" 3 [] gAll F := by
  obtain ⟨fd, hf, hm, hF⟩ := h
  exact ⟨_, fd, _, hF, hm, hf.kp, bdd_all (hf.bindsN fun _ _ _ _ _ _ us hl => match us, hl with | [_, _, _], _ => rfl)⟩
theorem fr_multiples_to (T : TT K mg) : ∀ n : Nat, ∃ fd, FunD K "multiples_to" "multiples_to" (defArgs s_multiples_to) (defBody s_multiples_to) (defScope s_multiples_to) (d_multiples_to.dvs K) (d_multiples_to.kws K) (He.fAd K ("multiples_to", none)) fd ∧ mg "multiples_to" = some (.ref (He.fAd K ("multiples_to", none))) ∧ FnD P w K mg base C8.CX0 (2 + n) (He.fAd K ("multiples_to", none)) fd ["leasts", "base", "number"] (FR_multiples_to n) := by
  intro n
  induction n with
  | zero =>
    obtain ⟨fd, hf, hm⟩ := T.df d_multiples_to (List.mem_of_getElem? (i := 24) rfl)
    exact ⟨fd, hf, hm, fun _ _ _ _ _ _ _ _ _ _ _ _ _ _ _ _ _ _ _ _ _ q => q.elim⟩
  | succ n ih =>
    obtain ⟨fd, hf, hm⟩ := T.df d_multiples_to (List.mem_of_getElem? (i := 24) rfl)
    have SC := sc_multiples_to
    refine ⟨fd, hf, hm, fnd_of0 (k := 2 + n) hf SC fun cdv B outer s H E hr hgd => ?_⟩
    exact (fss_cons (fs_set (i := 3) SC.nd rfl (.inl rfl) fe_int)
      (fss_cons (fs_for PassesOwn.never rfl (fi_enum (by rfl) (T.fr "enumerate" (List.mem_of_getElem? (i := 3) rfl)) (fa_cons (fe_var (pv 0)) fa_nil)) (fgw_u rfl (fgs_cons (fg_name (pg_name (i := 4) SC.nd rfl (.inl rfl))) (fgs_cons (fg_name (pg_name (i := 5) SC.nd rfl (.inl rfl))) fgs_nil))) (fss_cons (fs_set (i := 6) SC.nd rfl (.inl rfl) (fe_call (cal_lcm_of T) hr (by omega) hgd (by rfl) C8.pass0 (fa_cons (fe_lst (fa_cons (fe_var (pv 1)) (fa_cons (fe_var (pv 5)) fa_nil))) fa_nil)))
      (fss_one (fs_if (ft_cmp op_leD (fe_var (pv 6)) (fe_var (pv 2))) (fss_one (fs_set (i := 3) SC.nd rfl (.inl rfl) (fe_op op_subD (fe_op op_addD (fe_var (pv 3)) (fe_op op_fdivD (fe_var (pv 2)) (fe_var (pv 6)))) (fe_call (calr_multiples_to ih) hr (by omega) hgd (by rfl) C8.pass0 (fa_cons (fe_sl (fe_var (pv 0)) (fo_some (fe_op op_addD (fe_var (pv 4)) fe_int)) fo_none) (fa_cons (fe_var (pv 6)) (fa_cons (fe_var (pv 2)) fa_nil))))))) fss_nil))))
      (fss_one (fs_ret (fe_var (pv 3))))))
theorem fn_multiples_to (T : TT K mg) : ∃ fd, FunD K "multiples_to" "multiples_to" (defArgs s_multiples_to) (defBody s_multiples_to) (defScope s_multiples_to) (d_multiples_to.dvs K) (d_multiples_to.kws K) (He.fAd K ("multiples_to", none)) fd ∧ mg "multiples_to" = some (.ref (He.fAd K ("multiples_to", none))) ∧ FnD P w K mg base C8.CX0 67 (He.fAd K ("multiples_to", none)) fd ["leasts", "base", "number"] F_multiples_to := by
  obtain ⟨fd, hf, hm, hF⟩ := fr_multiples_to (P := P) (w := w) (base := base) T 64
  exact ⟨fd, hf, hm, hF.mono (by decide)⟩
theorem cal_multiples_to (T : TT K mg) : CalD P w K mg base C8.CX0 67 "multiples_to" 3 [] gAll F_multiples_to := by
  obtain ⟨fd, hf, hm, hF⟩ := fn_multiples_to (P := P) (w := w) (base := base) T
  exact ⟨_, fd, _, hF, hm, hf.kp, bdd_all (hf.bindsN fun _ _ _ _ _ _ us hl => match us, hl with | [_, _, _], _ => rfl)⟩
theorem sc_many_to : FnScope ["form", "number", "period", "divisors", "exceptions", "one"] ["form", "number"] (defScope s_many_to) := C8.fnScope_by (by decide +kernel)
theorem fn_many_to (T : TT K mg) : ∃ fd, FunD K "many_to" "many_to" (defArgs s_many_to) (defBody s_many_to) (defScope s_many_to) (d_many_to.dvs K) (d_many_to.kws K) (He.fAd K ("many_to", none)) fd ∧ mg "many_to" = some (.ref (He.fAd K ("many_to", none))) ∧ FnD P w K mg base C8.CX0 68 (He.fAd K ("many_to", none)) fd ["form", "number"] F_many_to := by
  obtain ⟨fd, hf, hm⟩ := T.df d_many_to (List.mem_of_getElem? (i := 25) rfl)
  have SC := sc_many_to
  refine ⟨fd, hf, hm, fnd_of0 (k := 67) hf SC fun cdv B outer s H E hr hgd => ?_⟩
  exact (fss_cons (fs_asg (fe_var (pv 0)) (fg_tup rfl (fgs_cons (fg_name (pg_name (i := 2) SC.nd rfl (.inl rfl))) (fgs_cons (fg_name (pg_name (i := 3) SC.nd rfl (.inl rfl))) (fgs_cons (fg_name (pg_name (i := 4) SC.nd rfl (.inl rfl))) fgs_nil)))))
      (fss_one (fs_ret (fe_op op_subD (fe_call (cal_multiples_to T) hr (by omega) hgd (by rfl) C8.pass0 (fa_cons (fe_call (cal_leasts_of T) hr (by omega) hgd (by rfl) C8.pass0 (fa_cons (fe_var (pv 3)) fa_nil)) (fa_cons fe_int (fa_cons (fe_var (pv 1)) fa_nil)))) (fe_callB call_lenD (by rfl) (T.fr "len" (List.mem_of_getElem? (i := 6) rfl)) (by decide +kernel) (fa_cons (fe_comp (own := [("one", 5)]) rfl SC.nd (fi_seq (fe_var (pv 4))) (blkOk_by (by rfl)) (fun _ _ _ _ _ => (fgc_name (pg_name (i := 5) SC.nd rfl (by first | exact .inl rfl | exact .inr rfl)))) (fun _ _ _ _ _ => (fts_one (ft_cmp op_leD (fe_var (pv 5)) (fe_var (pv 1))))) (fun _ _ _ _ _ => (fe_var (pv 5)))) fa_nil))))))
theorem cal_many_to (T : TT K mg) : CalD P w K mg base C8.CX0 68 "many_to" 2 [] gAll F_many_to := by
  obtain ⟨fd, hf, hm, hF⟩ := fn_many_to (P := P) (w := w) (base := base) T
  exact ⟨_, fd, _, hF, hm, hf.kp, bdd_all (hf.bindsN fun _ _ _ _ _ _ us hl => match us, hl with | [_, _], _ => rfl)⟩
theorem sc_nth_of : FnScope ["form", "k", "low", "high", "middle"] ["form", "k"] (defScope s_nth_of) := C8.fnScope_by (by decide +kernel)
theorem fn_nth_of (T : TT K mg) : ∃ fd, FunD K "nth_of" "nth_of" (defArgs s_nth_of) (defBody s_nth_of) (defScope s_nth_of) (d_nth_of.dvs K) (d_nth_of.kws K) (He.fAd K ("nth_of", none)) fd ∧ mg "nth_of" = some (.ref (He.fAd K ("nth_of", none))) ∧ FnD P w K mg base C8.CX0 69 (He.fAd K ("nth_of", none)) fd ["form", "k"] F_nth_of := by
  obtain ⟨fd, hf, hm⟩ := T.df d_nth_of (List.mem_of_getElem? (i := 26) rfl)
  have SC := sc_nth_of
  refine ⟨fd, hf, hm, fnd_of0 (k := 68) hf SC fun cdv B outer s H E hr hgd => ?_⟩
  exact (fss_cons (fs_par (i := 2) (j := 3) rfl SC.nd rfl rfl (by decide) rfl rfl (fa_cons fe_int (fa_cons (fe_ix (ix_D (room_65 hr)) (fe_var (pv 0)) fe_int) fa_nil)) (by rfl))
      (fss_cons (fs_while PassesOwn.never (ft_cmp op_leD (fe_call (cal_many_to T) hr (by omega) hgd (by rfl) C8.pass0 (fa_cons (fe_var (pv 0)) (fa_cons (fe_var (pv 3)) fa_nil))) (fe_var (pv 1))) (fss_one (fs_par (i := 2) (j := 3) rfl SC.nd rfl rfl (by decide) rfl rfl (fa_cons (fe_var (pv 3)) (fa_cons (fe_op op_mulD fe_int (fe_var (pv 3))) fa_nil)) (by rfl))))
      (fss_cons (fs_while PassesOwn.never (ft_cmp op_gtD (fe_op op_subD (fe_var (pv 3)) (fe_var (pv 2))) fe_int) (fss_cons (fs_set (i := 4) SC.nd rfl (.inl rfl) (fe_op op_fdivD (fe_op op_addD (fe_var (pv 2)) (fe_var (pv 3))) fe_int))
      (fss_one (fs_if (ft_cmp op_leD (fe_call (cal_many_to T) hr (by omega) hgd (by rfl) C8.pass0 (fa_cons (fe_var (pv 0)) (fa_cons (fe_var (pv 4)) fa_nil))) (fe_var (pv 1))) (fss_one (fs_set (i := 2) SC.nd rfl (.inl rfl) (fe_var (pv 4)))) (fss_one (fs_set (i := 3) SC.nd rfl (.inl rfl) (fe_var (pv 4))))))))
      (fss_one (fs_ret (fe_var (pv 3)))))))
theorem cal_nth_of (T : TT K mg) : CalD P w K mg base C8.CX0 69 "nth_of" 2 [] gAll F_nth_of := by
  obtain ⟨fd, hf, hm, hF⟩ := fn_nth_of (P := P) (w := w) (base := base) T
  exact ⟨_, fd, _, hF, hm, hf.kp, bdd_all (hf.bindsN fun _ _ _ _ _ _ us hl => match us, hl with | [_, _], _ => rfl)⟩
theorem sc_Moduli_least : FnScope ["self"] ["self"] (defScope s_Moduli_least) := C8.fnScope_by (by decide +kernel)
theorem fn_Moduli_least (T : TT K mg) : ∃ fd, FunD K "least" "Moduli.least" (defArgs s_Moduli_least) (defBody s_Moduli_least) (defScope s_Moduli_least) (d_Moduli_least.dvs K) (d_Moduli_least.kws K) (pAd K ("Moduli", "least", "property")) fd ∧ FnD P w K mg base C8.CX0 70 (pAd K ("Moduli", "least", "property")) fd ["self"] F_Moduli_least := by
  obtain ⟨fd, hf⟩ := T.gt (("Moduli", "least", "property"), d_Moduli_least) (List.mem_of_getElem? (i := 0) rfl)
  have SC := sc_Moduli_least
  refine ⟨fd, hf, fnd_of0 (k := 69) hf SC fun cdv B outer s H E hr hgd => ?_⟩
  exact (fss_one (fs_ret (fe_if (ft_cmp (op_eqDD (room_64 hr)) (fe_callB call_lenD (by rfl) (T.fr "len" (List.mem_of_getElem? (i := 6) rfl)) (by decide +kernel) (fa_cons (fe_ix (ix_D (room_65 hr)) (fe_fld (all_1 ((T.cl _ (List.mem_of_getElem? (i := 0) rfl)).fs "own_form" (by decide))) (fe_var (pv 0))) fe_int) fa_nil)) fe_int) fe_non (fe_call (cal_nth_of T) hr (by omega) hgd (by rfl) C8.pass0 (fa_cons (fe_fld (all_1 ((T.cl _ (List.mem_of_getElem? (i := 0) rfl)).fs "own_form" (by decide))) (fe_var (pv 0))) (fa_cons fe_int fa_nil))))))
theorem prp_Moduli_least (T : TT K mg) : PrpD P w K mg base C8.CX0 70 "Moduli" "least" F_Moduli_least := by
  obtain ⟨fd, hf, hF⟩ := fn_Moduli_least (P := P) (w := w) (base := base) T
  exact ⟨_, _, fd, _, hF, (T.cl _ (List.mem_of_getElem? (i := 0) rfl)).isi.cl, (T.cl _ (List.mem_of_getElem? (i := 0) rfl)).ps "least" (by decide), bdd_all (hf.bindsN fun _ _ _ _ _ _ us hl => match us, hl with | [_], _ => rfl)⟩
theorem sc_least_bits : FnScope ["form", "period", "divisors", "exceptions", "power", "last", "rest", "bits"] ["form"] (defScope s_least_bits) := C8.fnScope_by (by decide +kernel)
theorem fn_least_bits (T : TT K mg) : ∃ fd, FunD K "least_bits" "least_bits" (defArgs s_least_bits) (defBody s_least_bits) (defScope s_least_bits) (d_least_bits.dvs K) (d_least_bits.kws K) (He.fAd K ("least_bits", none)) fd ∧ mg "least_bits" = some (.ref (He.fAd K ("least_bits", none))) ∧ FnD P w K mg base C8.CX0 3 (He.fAd K ("least_bits", none)) fd ["form"] F_least_bits := by
  obtain ⟨fd, hf, hm⟩ := T.df d_least_bits (List.mem_of_getElem? (i := 27) rfl)
  have SC := sc_least_bits
  refine ⟨fd, hf, hm, fnd_of0 (k := 2) hf SC fun cdv B outer s H E hr hgd => ?_⟩
  exact (fss_cons (fs_asg (fe_var (pv 0)) (fg_tup rfl (fgs_cons (fg_name (pg_name (i := 1) SC.nd rfl (.inl rfl))) (fgs_cons (fg_name (pg_name (i := 2) SC.nd rfl (.inl rfl))) (fgs_cons (fg_name (pg_name (i := 3) SC.nd rfl (.inl rfl))) fgs_nil)))))
      (fss_cons (fs_par3 (i := 4) (j := 5) (l := 6) rfl SC.nd rfl rfl rfl (by decide) (by decide) (by decide) rfl rfl rfl (fa_cons fe_int (fa_cons (fe_op op_addD (fe_callB call_lenD (by rfl) (T.fr "len" (List.mem_of_getElem? (i := 6) rfl)) (by decide +kernel) (fa_cons (fe_var (pv 3)) fa_nil)) fe_int) (fa_cons (fe_var (pv 1)) fa_nil))) (by rfl))
      (fss_cons (fs_while PassesOwn.never (ft_cmp (op_eqDD (room_64 hr)) (fe_op op_modD (fe_callTy call_intD (by rfl) (T.fr "int" (List.mem_of_getElem? (i := 4) rfl)) (by decide +kernel) (fa_cons (fe_var (pv 6)) fa_nil)) fe_int) fe_int) (fss_one (fs_par (i := 6) (j := 5) rfl SC.nd rfl rfl (by decide) rfl rfl (fa_cons (fe_op op_fdivD (fe_var (pv 6)) fe_int) (fa_cons (fe_op op_addD (fe_var (pv 5)) fe_int) fa_nil)) (by rfl))))
      (fss_cons (fs_for PassesOwn.never rfl (fi_range1 (by rfl) (T.fr "range" (List.mem_of_getElem? (i := 9) rfl)) (fa_cons (fe_op op_addD (fe_var (pv 5)) fe_int) fa_nil)) (fgw_n (fg_name (pg_name (i := 7) SC.nd rfl (.inl rfl)))) (fss_cons (fs_if (ft_val (fe_call (cal_has_modulus T) hr (by omega) hgd (by rfl) C8.pass0 (fa_cons (fe_var (pv 0)) (fa_cons (fe_var (pv 4)) fa_nil)))) (fss_one (fs_ret (fe_var (pv 7)))) fss_nil)
      (fss_one (fs_set (i := 4) SC.nd rfl (.inl rfl) (fe_op op_mulD (fe_var (pv 4)) fe_int)))))
      (fss_one (fs_ret fe_non))))))
theorem cal_least_bits (T : TT K mg) : CalD P w K mg base C8.CX0 3 "least_bits" 1 [] gAll F_least_bits := by
  obtain ⟨fd, hf, hm, hF⟩ := fn_least_bits (P := P) (w := w) (base := base) T
  exact ⟨_, fd, _, hF, hm, hf.kp, bdd_all (hf.bindsN fun _ _ _ _ _ _ us hl => match us, hl with | [_], _ => rfl)⟩
theorem sc_Moduli_bits : FnScope ["self"] ["self"] (defScope s_Moduli_bits) := C8.fnScope_by (by decide +kernel)
theorem fn_Moduli_bits (T : TT K mg) : ∃ fd, FunD K "bits" "Moduli.bits" (defArgs s_Moduli_bits) (defBody s_Moduli_bits) (defScope s_Moduli_bits) (d_Moduli_bits.dvs K) (d_Moduli_bits.kws K) (pAd K ("Moduli", "bits", "property")) fd ∧ FnD P w K mg base C8.CX0 4 (pAd K ("Moduli", "bits", "property")) fd ["self"] F_Moduli_bits := by
  obtain ⟨fd, hf⟩ := T.gt (("Moduli", "bits", "property"), d_Moduli_bits) (List.mem_of_getElem? (i := 1) rfl)
  have SC := sc_Moduli_bits
  refine ⟨fd, hf, fnd_of0 (k := 3) hf SC fun cdv B outer s H E hr hgd => ?_⟩
  exact (fss_one (fs_ret (fe_call (cal_least_bits T) hr (by omega) hgd (by rfl) C8.pass0 (fa_cons (fe_fld (all_1 ((T.cl _ (List.mem_of_getElem? (i := 0) rfl)).fs "own_form" (by decide))) (fe_var (pv 0))) fa_nil))))
theorem prp_Moduli_bits (T : TT K mg) : PrpD P w K mg base C8.CX0 4 "Moduli" "bits" F_Moduli_bits := by
  obtain ⟨fd, hf, hF⟩ := fn_Moduli_bits (P := P) (w := w) (base := base) T
  exact ⟨_, _, fd, _, hF, (T.cl _ (List.mem_of_getElem? (i := 0) rfl)).isi.cl, (T.cl _ (List.mem_of_getElem? (i := 0) rfl)).ps "bits" (by decide), bdd_all (hf.bindsN fun _ _ _ _ _ _ us hl => match us, hl with | [_], _ => rfl)⟩
theorem sc_Moduli_all_from : FnScope ["self", "period", "divisors", "exceptions"] ["self"] (defScope s_Moduli_all_from) := C8.fnScope_by (by decide +kernel)
theorem fn_Moduli_all_from (T : TT K mg) : ∃ fd, FunD K "all_from" "Moduli.all_from" (defArgs s_Moduli_all_from) (defBody s_Moduli_all_from) (defScope s_Moduli_all_from) (d_Moduli_all_from.dvs K) (d_Moduli_all_from.kws K) (pAd K ("Moduli", "all_from", "property")) fd ∧ FnD P w K mg base C8.CX0 1 (pAd K ("Moduli", "all_from", "property")) fd ["self"] F_Moduli_all_from := by
  obtain ⟨fd, hf⟩ := T.gt (("Moduli", "all_from", "property"), d_Moduli_all_from) (List.mem_of_getElem? (i := 2) rfl)
  have SC := sc_Moduli_all_from
  refine ⟨fd, hf, fnd_of0 (k := 0) hf SC fun cdv B outer s H E hr hgd => ?_⟩
  exact (fss_cons (fs_asg (fe_fld (all_1 ((T.cl _ (List.mem_of_getElem? (i := 0) rfl)).fs "own_form" (by decide))) (fe_var (pv 0))) (fg_tup rfl (fgs_cons (fg_name (pg_name (i := 1) SC.nd rfl (.inl rfl))) (fgs_cons (fg_name (pg_name (i := 2) SC.nd rfl (.inl rfl))) (fgs_cons (fg_name (pg_name (i := 3) SC.nd rfl (.inl rfl))) fgs_nil)))))
      (fss_cons (fs_if (ft_cmp (op_neDD (room_64 hr)) (fe_var (pv 2)) (fe_tup (fa_cons fe_int fa_nil))) (fss_one (fs_ret fe_non)) fss_nil)
      (fss_one (fs_ret (fe_if (ft_val (fe_var (pv 3))) (fe_op op_addD (fe_ix (ix_D (room_65 hr)) (fe_var (pv 3)) (fe_un un_negD fe_int)) fe_int) fe_int)))))
theorem prp_Moduli_all_from (T : TT K mg) : PrpD P w K mg base C8.CX0 1 "Moduli" "all_from" F_Moduli_all_from := by
  obtain ⟨fd, hf, hF⟩ := fn_Moduli_all_from (P := P) (w := w) (base := base) T
  exact ⟨_, _, fd, _, hF, (T.cl _ (List.mem_of_getElem? (i := 0) rfl)).isi.cl, (T.cl _ (List.mem_of_getElem? (i := 0) rfl)).ps "all_from" (by decide), bdd_all (hf.bindsN fun _ _ _ _ _ _ us hl => match us, hl with | [_], _ => rfl)⟩
theorem sc_Moduli___getitem__ : FnScope ["self", "k"] ["self", "k"] (defScope s_Moduli___getitem__) := C8.fnScope_by (by decide +kernel)
theorem fn_Moduli___getitem__ (T : TT K mg) : ∃ fd, FunD K "__getitem__" "Moduli.__getitem__" (defArgs s_Moduli___getitem__) (defBody s_Moduli___getitem__) (defScope s_Moduli___getitem__) (d_Moduli___getitem__.dvs K) (d_Moduli___getitem__.kws K) (He.fAd K ("Moduli", some "__getitem__")) fd ∧ FnD P w K mg base C8.CX0 70 (He.fAd K ("Moduli", some "__getitem__")) fd ["self", "k"] F_Moduli___getitem__ := by
  obtain ⟨fd, hf⟩ := T.mt d_Moduli___getitem__ (List.mem_of_getElem? (i := 3) rfl)
  have SC := sc_Moduli___getitem__
  refine ⟨fd, hf, fnd_of0 (k := 69) hf SC fun cdv B outer s H E hr hgd => ?_⟩
  exact (fss_cons (fs_expr (fe_call (cal_require_given_2 T) hr (by omega) hgd (by rfl) C8.pass0 (fa_cons (fe_and (fe_call (cal_is_number T) hr (by omega) hgd (by rfl) C8.pass0 (fa_cons (fe_var (pv 1)) fa_nil)) (fe_one (fe_cmp op_gtD (fe_callB call_lenD (by rfl) (T.fr "len" (List.mem_of_getElem? (i := 6) rfl)) (by decide +kernel) (fa_cons (fe_ix (ix_D (room_65 hr)) (fe_fld (all_1 ((T.cl _ (List.mem_of_getElem? (i := 0) rfl)).fs "own_form" (by decide))) (fe_var (pv 0))) fe_int) fa_nil)) fe_int))) (fa_cons (fe_str (by decide +kernel)) fa_nil))))
      (fss_one (fs_ret (fe_call (cal_nth_of T) hr (by omega) hgd (by rfl) C8.pass0 (fa_cons (fe_fld (all_1 ((T.cl _ (List.mem_of_getElem? (i := 0) rfl)).fs "own_form" (by decide))) (fe_var (pv 0))) (fa_cons (fe_var (pv 1)) fa_nil))))))
theorem met_Moduli___getitem___1 (T : TT K mg) : MetD P w K mg base C8.CX0 70 "Moduli" "__getitem__" 1 [] gAll F_Moduli___getitem__ := by
  obtain ⟨fd, hf, hF⟩ := fn_Moduli___getitem__ (P := P) (w := w) (base := base) T
  exact ⟨_, fd, _, hF, (T.cl _ (List.mem_of_getElem? (i := 0) rfl)).isi.cl, (T.cl _ (List.mem_of_getElem? (i := 0) rfl)).ms "__getitem__" (by decide), fnIn_of hf, bdd_all (hf.bindsN fun _ _ _ _ _ _ us hl => match us, hl with | [_, _], _ => rfl)⟩
theorem sc__law_powers_right : FnScope ["_law_powers", "_law_lap", "_law_late"] [] (defScope s__law_powers_right) := C8.fnScope_by (by decide +kernel)
theorem fn__law_powers_right (T : TT K mg) : ∃ fd, FunD K "_law_powers_right" "_law_powers_right" (defArgs s__law_powers_right) (defBody s__law_powers_right) (defScope s__law_powers_right) (d__law_powers_right.dvs K) (d__law_powers_right.kws K) (He.fAd K ("_law_powers_right", none)) fd ∧ mg "_law_powers_right" = some (.ref (He.fAd K ("_law_powers_right", none))) ∧ FnD P w K mg base C8.CX0 72 (He.fAd K ("_law_powers_right", none)) fd [] F__law_powers_right := by
  obtain ⟨fd, hf, hm⟩ := T.df d__law_powers_right (List.mem_of_getElem? (i := 28) rfl)
  have SC := sc__law_powers_right
  refine ⟨fd, hf, hm, fnd_of0 (k := 71) hf SC fun cdv B outer s H E hr hgd => ?_⟩
  exact (fss_cons (fs_set (i := 0) SC.nd rfl (.inl rfl) (fe_newL (fa_cons fe_int fa_nil)))
      (fss_cons (fs_for PassesOwn.never rfl (fi_range1 (by rfl) (T.fr "range" (List.mem_of_getElem? (i := 9) rfl)) (fa_cons fe_int fa_nil)) (fgw_n (fg_name (pg_name (i := 1) SC.nd rfl (.inl rfl)))) (fss_one (fs_expr (fe_mut mut_append (fe_var (pv 0)) (fa_cons (fe_op op_mulD (fe_ix (ix_D (room_65 hr)) (fe_var (pv 0)) (fe_un un_negD fe_int)) fe_int) fa_nil)))))
      (fss_cons (fs_set (i := 2) SC.nd rfl (.inl rfl) (fe_make (mak_Moduli___init___3 T) hr (by omega) hgd (by rfl) C8.pass0 (args_1 (fa_cons fe_int (fa_cons (fe_tup (fa_cons fe_int fa_nil)) (fa_cons (fe_callTy call_tupleD (by rfl) (T.fr "tuple" (List.mem_of_getElem? (i := 13) rfl)) (by decide +kernel) (fa_cons (fe_var (pv 0)) fa_nil)) fa_nil))))))
      (fss_cons (fs_if (ft_cmp (op_neDD (room_64 hr)) (fe_callB (call_reprD hgd (room_u hr)) (by rfl) (T.fr "repr" (List.mem_of_getElem? (i := 10) rfl)) (by decide +kernel) (fa_cons (fe_lst (fa_cons (fe_attr (all_1 (prp_Moduli_least T)) all_0 hr (by omega) hgd (fe_var (pv 2))) (fa_cons (fe_attr (all_1 (prp_Moduli_bits T)) all_0 hr (by omega) hgd (fe_var (pv 2))) (fa_cons (fe_attr (all_1 (prp_Moduli_all_from T)) all_0 hr (by omega) hgd (fe_var (pv 2))) (fa_cons (fe_ixM (all_1 (met_Moduli___getitem___1 T)) hr (by omega) hgd C8.pass0 (ix_D (room_65 hr)) (fe_var (pv 2)) fe_int) fa_nil))))) fa_nil)) (fe_callB (call_reprD hgd (room_u hr)) (by rfl) (T.fr "repr" (List.mem_of_getElem? (i := 10) rfl)) (by decide +kernel) (fa_cons (fe_lst (fa_cons fe_int (fa_cons fe_int (fa_cons (fe_op op_addD (fe_ix (ix_D (room_65 hr)) (fe_var (pv 0)) (fe_un un_negD fe_int)) fe_int) (fa_cons fe_int fa_nil))))) fa_nil))) (fss_one (fs_ret fe_bl)) fss_nil)
      (fss_one (fs_ret (fe_cmpM (op_notInM (all_1 (met_Moduli___contains___1 T)) hr (by omega) hgd C8.pass0 (op_notInDD (room_65 hr))) (fe_ix (ix_D (room_65 hr)) (fe_var (pv 0)) (fe_un un_negD fe_int)) (fe_var (pv 2)))))))))
theorem cal__law_powers_right (T : TT K mg) : CalD P w K mg base C8.CX0 72 "_law_powers_right" 0 [] gAll F__law_powers_right := by
  obtain ⟨fd, hf, hm, hF⟩ := fn__law_powers_right (P := P) (w := w) (base := base) T
  exact ⟨_, fd, _, hF, hm, hf.kp, bdd_all (hf.bindsN fun _ _ _ _ _ _ us hl => match us, hl with | [], _ => rfl)⟩
theorem sc_Moduli___eq__ : FnScope ["self", "other"] ["self", "other"] (defScope s_Moduli___eq__) := C8.fnScope_by (by decide +kernel)
theorem fn_Moduli___eq__ (T : TT K mg) : ∃ fd, FunD K "__eq__" "Moduli.__eq__" (defArgs s_Moduli___eq__) (defBody s_Moduli___eq__) (defScope s_Moduli___eq__) (d_Moduli___eq__.dvs K) (d_Moduli___eq__.kws K) (He.fAd K ("Moduli", some "__eq__")) fd ∧ FnD P w K mg base C8.CX0 1 (He.fAd K ("Moduli", some "__eq__")) fd ["self", "other"] F_Moduli___eq__ := by
  obtain ⟨fd, hf⟩ := T.mt d_Moduli___eq__ (List.mem_of_getElem? (i := 4) rfl)
  have SC := sc_Moduli___eq__
  refine ⟨fd, hf, fnd_of0 (k := 0) hf SC fun cdv B outer s H E hr hgd => ?_⟩
  exact (fss_one (fs_ret (fe_and (fe_isO (all_c ⟨(T.cl _ (List.mem_of_getElem? (i := 0) rfl)).isi, ((T.cl _ (List.mem_of_getElem? (i := 0) rfl)).kit "Moduli" (by decide)).trans (by decide +kernel)⟩ all_0) (T.cl _ (List.mem_of_getElem? (i := 0) rfl)).no (fe_var (pv 1)) (pe_glob (v := .ref (He.ga K "Moduli")) (by rfl) (T.cgl "Moduli" (List.mem_of_getElem? (i := 0) rfl)) rfl) (by rfl) (T.fr "isinstance" (List.mem_of_getElem? (i := 5) rfl))) (fe_one (fe_cmp (op_eqDD (room_64 hr)) (fe_fld (all_1 ((T.cl _ (List.mem_of_getElem? (i := 0) rfl)).fs "own_form" (by decide))) (fe_var (pv 0))) (fe_fld (all_1 ((T.cl _ (List.mem_of_getElem? (i := 0) rfl)).fs "own_form" (by decide))) (fe_var (pv 1))))))))
theorem met_Moduli___eq___1 (T : TT K mg) : MetD P w K mg base C8.CX0 1 "Moduli" "__eq__" 1 [] gAll F_Moduli___eq__ := by
  obtain ⟨fd, hf, hF⟩ := fn_Moduli___eq__ (P := P) (w := w) (base := base) T
  exact ⟨_, fd, _, hF, (T.cl _ (List.mem_of_getElem? (i := 0) rfl)).isi.cl, (T.cl _ (List.mem_of_getElem? (i := 0) rfl)).ms "__eq__" (by decide), fnIn_of hf, bdd_all (hf.bindsN fun _ _ _ _ _ _ us hl => match us, hl with | [_, _], _ => rfl)⟩
theorem sc_Moduli_form : FnScope ["self"] ["self"] (defScope s_Moduli_form) := C8.fnScope_by (by decide +kernel)
theorem fn_Moduli_form (T : TT K mg) : ∃ fd, FunD K "form" "Moduli.form" (defArgs s_Moduli_form) (defBody s_Moduli_form) (defScope s_Moduli_form) (d_Moduli_form.dvs K) (d_Moduli_form.kws K) (pAd K ("Moduli", "form", "property")) fd ∧ FnD P w K mg base C8.CX0 1 (pAd K ("Moduli", "form", "property")) fd ["self"] F_Moduli_form := by
  obtain ⟨fd, hf⟩ := T.gt (("Moduli", "form", "property"), d_Moduli_form) (List.mem_of_getElem? (i := 3) rfl)
  have SC := sc_Moduli_form
  refine ⟨fd, hf, fnd_of0 (k := 0) hf SC fun cdv B outer s H E hr hgd => ?_⟩
  exact (fss_one (fs_ret (fe_fld (all_1 ((T.cl _ (List.mem_of_getElem? (i := 0) rfl)).fs "own_form" (by decide))) (fe_var (pv 0)))))
theorem prp_Moduli_form (T : TT K mg) : PrpD P w K mg base C8.CX0 1 "Moduli" "form" F_Moduli_form := by
  obtain ⟨fd, hf, hF⟩ := fn_Moduli_form (P := P) (w := w) (base := base) T
  exact ⟨_, _, fd, _, hF, (T.cl _ (List.mem_of_getElem? (i := 0) rfl)).isi.cl, (T.cl _ (List.mem_of_getElem? (i := 0) rfl)).ps "form" (by decide), bdd_all (hf.bindsN fun _ _ _ _ _ _ us hl => match us, hl with | [_], _ => rfl)⟩
theorem sc_Moduli_period : FnScope ["self"] ["self"] (defScope s_Moduli_period) := C8.fnScope_by (by decide +kernel)
theorem fn_Moduli_period (T : TT K mg) : ∃ fd, FunD K "period" "Moduli.period" (defArgs s_Moduli_period) (defBody s_Moduli_period) (defScope s_Moduli_period) (d_Moduli_period.dvs K) (d_Moduli_period.kws K) (pAd K ("Moduli", "period", "property")) fd ∧ FnD P w K mg base C8.CX0 1 (pAd K ("Moduli", "period", "property")) fd ["self"] F_Moduli_period := by
  obtain ⟨fd, hf⟩ := T.gt (("Moduli", "period", "property"), d_Moduli_period) (List.mem_of_getElem? (i := 4) rfl)
  have SC := sc_Moduli_period
  refine ⟨fd, hf, fnd_of0 (k := 0) hf SC fun cdv B outer s H E hr hgd => ?_⟩
  exact (fss_one (fs_ret (fe_ix (ix_D (room_65 hr)) (fe_fld (all_1 ((T.cl _ (List.mem_of_getElem? (i := 0) rfl)).fs "own_form" (by decide))) (fe_var (pv 0))) fe_int)))
theorem prp_Moduli_period (T : TT K mg) : PrpD P w K mg base C8.CX0 1 "Moduli" "period" F_Moduli_period := by
  obtain ⟨fd, hf, hF⟩ := fn_Moduli_period (P := P) (w := w) (base := base) T
  exact ⟨_, _, fd, _, hF, (T.cl _ (List.mem_of_getElem? (i := 0) rfl)).isi.cl, (T.cl _ (List.mem_of_getElem? (i := 0) rfl)).ps "period" (by decide), bdd_all (hf.bindsN fun _ _ _ _ _ _ us hl => match us, hl with | [_], _ => rfl)⟩
theorem sc_Moduli_divisors : FnScope ["self"] ["self"] (defScope s_Moduli_divisors) := C8.fnScope_by (by decide +kernel)
theorem fn_Moduli_divisors (T : TT K mg) : ∃ fd, FunD K "divisors" "Moduli.divisors" (defArgs s_Moduli_divisors) (defBody s_Moduli_divisors) (defScope s_Moduli_divisors) (d_Moduli_divisors.dvs K) (d_Moduli_divisors.kws K) (pAd K ("Moduli", "divisors", "property")) fd ∧ FnD P w K mg base C8.CX0 1 (pAd K ("Moduli", "divisors", "property")) fd ["self"] F_Moduli_divisors := by
  obtain ⟨fd, hf⟩ := T.gt (("Moduli", "divisors", "property"), d_Moduli_divisors) (List.mem_of_getElem? (i := 5) rfl)
  have SC := sc_Moduli_divisors
  refine ⟨fd, hf, fnd_of0 (k := 0) hf SC fun cdv B outer s H E hr hgd => ?_⟩
  exact (fss_one (fs_ret (fe_ix (ix_D (room_65 hr)) (fe_fld (all_1 ((T.cl _ (List.mem_of_getElem? (i := 0) rfl)).fs "own_form" (by decide))) (fe_var (pv 0))) fe_int)))
theorem prp_Moduli_divisors (T : TT K mg) : PrpD P w K mg base C8.CX0 1 "Moduli" "divisors" F_Moduli_divisors := by
  obtain ⟨fd, hf, hF⟩ := fn_Moduli_divisors (P := P) (w := w) (base := base) T
  exact ⟨_, _, fd, _, hF, (T.cl _ (List.mem_of_getElem? (i := 0) rfl)).isi.cl, (T.cl _ (List.mem_of_getElem? (i := 0) rfl)).ps "divisors" (by decide), bdd_all (hf.bindsN fun _ _ _ _ _ _ us hl => match us, hl with | [_], _ => rfl)⟩
theorem sc_Moduli_exceptions : FnScope ["self"] ["self"] (defScope s_Moduli_exceptions) := C8.fnScope_by (by decide +kernel)
theorem fn_Moduli_exceptions (T : TT K mg) : ∃ fd, FunD K "exceptions" "Moduli.exceptions" (defArgs s_Moduli_exceptions) (defBody s_Moduli_exceptions) (defScope s_Moduli_exceptions) (d_Moduli_exceptions.dvs K) (d_Moduli_exceptions.kws K) (pAd K ("Moduli", "exceptions", "property")) fd ∧ FnD P w K mg base C8.CX0 1 (pAd K ("Moduli", "exceptions", "property")) fd ["self"] F_Moduli_exceptions := by
  obtain ⟨fd, hf⟩ := T.gt (("Moduli", "exceptions", "property"), d_Moduli_exceptions) (List.mem_of_getElem? (i := 6) rfl)
  have SC := sc_Moduli_exceptions
  refine ⟨fd, hf, fnd_of0 (k := 0) hf SC fun cdv B outer s H E hr hgd => ?_⟩
  exact (fss_one (fs_ret (fe_ix (ix_D (room_65 hr)) (fe_fld (all_1 ((T.cl _ (List.mem_of_getElem? (i := 0) rfl)).fs "own_form" (by decide))) (fe_var (pv 0))) fe_int)))
theorem prp_Moduli_exceptions (T : TT K mg) : PrpD P w K mg base C8.CX0 1 "Moduli" "exceptions" F_Moduli_exceptions := by
  obtain ⟨fd, hf, hF⟩ := fn_Moduli_exceptions (P := P) (w := w) (base := base) T
  exact ⟨_, _, fd, _, hF, (T.cl _ (List.mem_of_getElem? (i := 0) rfl)).isi.cl, (T.cl _ (List.mem_of_getElem? (i := 0) rfl)).ps "exceptions" (by decide), bdd_all (hf.bindsN fun _ _ _ _ _ _ us hl => match us, hl with | [_], _ => rfl)⟩
theorem sc_law : FnScope ["_law_script", "_law_spring_here", "_law_own", "_law_due", "_law_form_in", "_law_one", "_law_told_here", "_law_n", "_law_lap", "_law_odd", "_law_late", "_law_every", "_law_k"] ["_law_script"] (defScope s_law) := C8.fnScope_by (by decide +kernel)
theorem fn_law (T : TT K mg) : ∃ fd, FunD K "law" "law" (defArgs s_law) (defBody s_law) (defScope s_law) (d_law.dvs K) (d_law.kws K) (He.fAd K ("law", none)) fd ∧ mg "law" = some (.ref (He.fAd K ("law", none))) ∧ FnD P w K mg base C8.CX0 73 (He.fAd K ("law", none)) fd ["_law_script"] F_law := by
  obtain ⟨fd, hf, hm⟩ := T.df d_law (List.mem_of_getElem? (i := 29) rfl)
  have SC := sc_law
  refine ⟨fd, hf, hm, fnd_of0 (k := 72) hf SC fun cdv B outer s H E hr hgd => ?_⟩
  exact (fss_cons (fs_set (i := 1) SC.nd rfl (.inl rfl) (fe_call (cal__law_spring T) hr (by omega) hgd (by rfl) C8.pass0 (fa_cons (fe_var (pv 0)) fa_nil)))
      (fss_cons (fs_set (i := 2) SC.nd rfl (.inl rfl) (fe_call (cal__law_drawn_set T) hr (by omega) hgd (by rfl) C8.pass0 (fa_cons (fe_var (pv 1)) fa_nil)))
      (fss_cons (fs_set (i := 3) SC.nd rfl (.inl rfl) (fe_call (cal__law_least T) hr (by omega) hgd (by rfl) C8.pass0 (fa_cons (fe_ix (ix_D (room_65 hr)) (fe_var (pv 2)) fe_int) (fa_cons (fe_callTy call_listD (by rfl) (T.fr "list" (List.mem_of_getElem? (i := 7) rfl)) (by decide +kernel) (fa_cons (fe_ix (ix_D (room_65 hr)) (fe_var (pv 2)) fe_int) fa_nil)) (fa_cons (fe_callTy call_listD (by rfl) (T.fr "list" (List.mem_of_getElem? (i := 7) rfl)) (by decide +kernel) (fa_cons (fe_ix (ix_D (room_65 hr)) (fe_var (pv 2)) fe_int) fa_nil)) fa_nil)))))
      (fss_cons (fs_for PassesOwn.never rfl (fi_seq (fe_tup (fa_cons (fe_var (pv 2)) (fa_cons (fe_call (cal__law_wrapped T) hr (by omega) hgd (by rfl) C8.pass0 (fa_cons (fe_var (pv 1)) (fa_cons (fe_var (pv 2)) fa_nil))) fa_nil)))) (fgw_n (fg_name (pg_name (i := 4) SC.nd rfl (.inl rfl)))) (fss_cons (fs_set (i := 5) SC.nd rfl (.inr rfl) (fe_make (mak_Moduli___init___3 T) hr (by omega) hgd (by rfl) C8.pass0 (args_1 (fa_cons (fe_ix (ix_D (room_65 hr)) (fe_var (pv 4)) fe_int) (fa_cons (fe_ix (ix_D (room_65 hr)) (fe_var (pv 4)) fe_int) (fa_cons (fe_ix (ix_D (room_65 hr)) (fe_var (pv 4)) fe_int) fa_nil))))))
      (fss_cons (fs_if (ft_cmp (op_neDD (room_64 hr)) (fe_callB (call_reprD hgd (room_u hr)) (by rfl) (T.fr "repr" (List.mem_of_getElem? (i := 10) rfl)) (by decide +kernel) (fa_cons (fe_lst (fa_cons (fe_attr (all_1 (prp_Moduli_form T)) all_0 hr (by omega) hgd (fe_var (pv 5))) (fa_cons (fe_attr (all_1 (prp_Moduli_period T)) all_0 hr (by omega) hgd (fe_var (pv 5))) (fa_cons (fe_attr (all_1 (prp_Moduli_divisors T)) all_0 hr (by omega) hgd (fe_var (pv 5))) (fa_cons (fe_attr (all_1 (prp_Moduli_exceptions T)) all_0 hr (by omega) hgd (fe_var (pv 5))) fa_nil))))) fa_nil)) (fe_callB (call_reprD hgd (room_u hr)) (by rfl) (T.fr "repr" (List.mem_of_getElem? (i := 10) rfl)) (by decide +kernel) (fa_cons (fe_lst (fa_cons (fe_var (pv 3)) (fa_cons (fe_ix (ix_D (room_65 hr)) (fe_var (pv 3)) fe_int) (fa_cons (fe_ix (ix_D (room_65 hr)) (fe_var (pv 3)) fe_int) (fa_cons (fe_ix (ix_D (room_65 hr)) (fe_var (pv 3)) fe_int) fa_nil))))) fa_nil))) (fss_one (fs_ret fe_bl)) fss_nil)
      (fss_cons (fs_set (i := 6) SC.nd rfl (.inl rfl) (fe_call (cal__law_told T) hr (by omega) hgd (by rfl) C8.pass0 (fa_cons (fe_var (pv 2)) fa_nil)))
      (fss_cons (fs_if (ft_cmp (op_neDD (room_64 hr)) (fe_callB (call_reprD hgd (room_u hr)) (by rfl) (T.fr "repr" (List.mem_of_getElem? (i := 10) rfl)) (by decide +kernel) (fa_cons (fe_lst (fa_cons (fe_attr (all_1 (prp_Moduli_least T)) all_0 hr (by omega) hgd (fe_var (pv 5))) (fa_cons (fe_attr (all_1 (prp_Moduli_bits T)) all_0 hr (by omega) hgd (fe_var (pv 5))) (fa_cons (fe_attr (all_1 (prp_Moduli_all_from T)) all_0 hr (by omega) hgd (fe_var (pv 5))) fa_nil)))) fa_nil)) (fe_callB (call_reprD hgd (room_u hr)) (by rfl) (T.fr "repr" (List.mem_of_getElem? (i := 10) rfl)) (by decide +kernel) (fa_cons (fe_sl (fe_var (pv 6)) fo_none (fo_some fe_int)) fa_nil))) (fss_one (fs_ret fe_bl)) fss_nil)
      (fss_cons (fs_if (PW.pt (fw_or (ft_cmp (op_neDD (room_64 hr)) (fe_comp (own := [("_law_k", 12)]) rfl SC.nd (fi_range1 (by rfl) (T.fr "range" (List.mem_of_getElem? (i := 9) rfl)) (fa_cons (fe_callB call_lenD (by rfl) (T.fr "len" (List.mem_of_getElem? (i := 6) rfl)) (by decide +kernel) (fa_cons (fe_ix (ix_D (room_65 hr)) (fe_var (pv 6)) fe_int) fa_nil)) fa_nil)) (blkOk_by (by rfl)) (fun _ _ _ _ _ => (fgc_name (pg_name (i := 12) SC.nd rfl (by first | exact .inl rfl | exact .inr rfl)))) (fun _ _ _ _ _ => fts_nil) (fun _ _ _ _ _ => (fe_ixM (all_1 (met_Moduli___getitem___1 T)) hr (by omega) hgd C8.pass0 (ix_D (room_65 hr)) (fe_var (pv 5)) (fe_var (pv 12))))) (fe_ix (ix_D (room_65 hr)) (fe_var (pv 6)) fe_int)) (fw_or1 (ft_not (ft_cmpM (op_cmpA (fun _ _ => rfl) (all_1 ⟨(met_Moduli___eq___1 T), (T.cl _ (List.mem_of_getElem? (i := 0) rfl)).nf⟩) hr (by omega) hgd C8.pass0 (op_eqDD (room_64 hr))) (fe_var (pv 5)) (fe_make (mak_Moduli___init___3 T) hr (by omega) hgd (by rfl) C8.pass0 (args_1 (fa_cons (fe_ix (ix_D (room_65 hr)) (fe_var (pv 3)) fe_int) (fa_cons (fe_ix (ix_D (room_65 hr)) (fe_var (pv 3)) fe_int) (fa_cons (fe_ix (ix_D (room_65 hr)) (fe_var (pv 3)) fe_int) fa_nil)))))))))) (fss_one (fs_ret fe_bl)) fss_nil)
      (fss_cons (fs_for PassesOwn.never rfl (fi_range2 (by rfl) (T.fr "range" (List.mem_of_getElem? (i := 9) rfl)) (fa_cons fe_int (fa_cons fe_int fa_nil))) (fgw_n (fg_name (pg_name (i := 7) SC.nd rfl (.inl rfl)))) (fss_one (fs_if (ft_cmp (op_neDD (room_64 hr)) (fe_cmpM (op_inM (all_1 (met_Moduli___contains___1 T)) hr (by omega) hgd C8.pass0 (op_inDD (room_65 hr))) (fe_var (pv 7)) (fe_var (pv 5))) (fe_call (cal__law_in T) hr (by omega) hgd (by rfl) C8.pass0 (fa_cons (fe_var (pv 2)) (fa_cons (fe_var (pv 7)) fa_nil)))) (fss_one (fs_ret fe_bl)) fss_nil)))
      (fss_cons (fs_for PassesOwn.never rfl (fi_range1 (by rfl) (T.fr "range" (List.mem_of_getElem? (i := 9) rfl)) (fa_cons fe_int fa_nil)) (fgw_n (fg_name (pg_name (i := 8) SC.nd rfl (.inl rfl)))) (fss_cons (fs_set (i := 7) SC.nd rfl (.inl rfl) (fe_op op_addD (fe_ix (ix_D (room_65 hr)) (fe_lst (fa_cons (fe_op op_powD fe_int fe_int) (fa_cons (fe_op op_powD fe_int fe_int) (fa_cons (fe_op op_powD fe_int fe_int) fa_nil)))) (fe_var (pv 8))) (fe_call (cal__law_dip T) hr (by omega) hgd (by rfl) C8.pass0 (fa_cons (fe_var (pv 1)) (fa_cons fe_int fa_nil)))))
      (fss_one (fs_if (ft_cmp (op_neDD (room_64 hr)) (fe_cmpM (op_inM (all_1 (met_Moduli___contains___1 T)) hr (by omega) hgd C8.pass0 (op_inDD (room_65 hr))) (fe_var (pv 7)) (fe_var (pv 5))) (fe_call (cal__law_in T) hr (by omega) hgd (by rfl) C8.pass0 (fa_cons (fe_var (pv 2)) (fa_cons (fe_var (pv 7)) fa_nil)))) (fss_one (fs_ret fe_bl)) fss_nil))))
      (fss_one (fs_for PassesOwn.never rfl (fi_seq (fe_tup (fa_cons fe_int (fa_cons (fe_un un_negD fe_int) (fa_cons fe_bl (fa_cons fe_non (fa_cons (fe_str (by decide +kernel)) (fa_cons (fe_tup (fa_cons fe_int fa_nil)) (fa_cons (fe_lst (fa_cons fe_int fa_nil)) (fa_cons (fe_op op_mulD (fe_op op_powD fe_int fe_int) fe_int) fa_nil)))))))))) (fgw_n (fg_name (pg_name (i := 9) SC.nd rfl (.inl rfl)))) (fss_one (fs_if (ft_cmpM (op_inM (all_1 (met_Moduli___contains___1 T)) hr (by omega) hgd C8.pass0 (op_inDD (room_65 hr))) (fe_var (pv 9)) (fe_var (pv 5))) (fss_one (fs_ret fe_bl)) fss_nil))))))))))))
      (fss_cons (fs_for PassesOwn.never rfl (fi_seq (fe_call (cal__law_other T) hr (by omega) hgd (by rfl) C8.pass0 (fa_cons (fe_var (pv 1)) (fa_cons (fe_var (pv 2)) fa_nil)))) (fgw_n (fg_name (pg_name (i := 4) SC.nd rfl (.inl rfl)))) (fss_cons (fs_set (i := 10) SC.nd rfl (.inl rfl) (fe_make (mak_Moduli___init___0_exceptions_divisors_period T) hr (by omega) hgd (by rfl) C8.pass0 (args_k0 (fk_cons (fe_ix (ix_D (room_65 hr)) (fe_var (pv 4)) fe_int) (fk_cons (fe_ix (ix_D (room_65 hr)) (fe_var (pv 4)) fe_int) (fk_cons (fe_ix (ix_D (room_65 hr)) (fe_var (pv 4)) fe_int) fk_nil))))))
      (fss_one (fs_if (PW.pt (fw_or (ft_cmpM (op_cmpA (fun _ _ => rfl) (all_1 ⟨(met_Moduli___eq___1 T), (T.cl _ (List.mem_of_getElem? (i := 0) rfl)).nf⟩) hr (by omega) hgd C8.pass0 (op_eqDD (room_64 hr))) (fe_var (pv 10)) (fe_make (mak_Moduli___init___3 T) hr (by omega) hgd (by rfl) C8.pass0 (args_1 (fa_cons (fe_ix (ix_D (room_65 hr)) (fe_var (pv 2)) fe_int) (fa_cons (fe_ix (ix_D (room_65 hr)) (fe_var (pv 2)) fe_int) (fa_cons (fe_ix (ix_D (room_65 hr)) (fe_var (pv 2)) fe_int) fa_nil)))))) (fw_or1 (ft_cmpM (op_cmpA (fun _ _ => rfl) (all_1 ⟨(met_Moduli___eq___1 T), (T.cl _ (List.mem_of_getElem? (i := 0) rfl)).nf⟩) hr (by omega) hgd C8.pass0 (op_eqDD (room_64 hr))) (fe_make (mak_Moduli___init___3 T) hr (by omega) hgd (by rfl) C8.pass0 (args_1 (fa_cons (fe_ix (ix_D (room_65 hr)) (fe_var (pv 2)) fe_int) (fa_cons (fe_ix (ix_D (room_65 hr)) (fe_var (pv 2)) fe_int) (fa_cons (fe_ix (ix_D (room_65 hr)) (fe_var (pv 2)) fe_int) fa_nil))))) (fe_var (pv 10)))))) (fss_one (fs_ret fe_bl)) fss_nil))))
      (fss_cons (fs_set (i := 11) SC.nd rfl (.inl rfl) (fe_make (mak_Moduli___init___0 T) hr (by omega) hgd (by rfl) C8.pass0 args_0))
      (fss_cons (fs_if (ft_not (ft_val (fe_call0 (cal__law_powers_right T) hr (by omega) hgd (by rfl) C8.pass0))) (fss_one (fs_ret fe_bl)) fss_nil)
      (fss_cons (fs_if (PW.pt (fw_or (ft_cmp (op_neDD (room_64 hr)) (fe_callB (call_reprD hgd (room_u hr)) (by rfl) (T.fr "repr" (List.mem_of_getElem? (i := 10) rfl)) (by decide +kernel) (fa_cons (fe_attr (all_1 (prp_Moduli_form T)) all_0 hr (by omega) hgd (fe_var (pv 11))) fa_nil)) (fe_callB (call_reprD hgd (room_u hr)) (by rfl) (T.fr "repr" (List.mem_of_getElem? (i := 10) rfl)) (by decide +kernel) (fa_cons (fe_tup (fa_cons fe_int (fa_cons (fe_tup (fa_cons fe_int fa_nil)) (fa_cons (fe_tup fa_nil) fa_nil)))) fa_nil))) (fw_or (ft_cmpM (op_cmpA (fun _ _ => rfl) (all_1 ⟨(met_Moduli___eq___1 T), (T.cl _ (List.mem_of_getElem? (i := 0) rfl)).nf⟩) hr (by omega) hgd C8.pass0 (op_eqDD (room_64 hr))) (fe_var (pv 11)) (fe_tup (fa_cons fe_int (fa_cons (fe_tup (fa_cons fe_int fa_nil)) (fa_cons (fe_tup fa_nil) fa_nil))))) (fw_or1 (ft_cmpM (op_cmpA (fun _ _ => rfl) (all_1 ⟨(met_Moduli___eq___1 T), (T.cl _ (List.mem_of_getElem? (i := 0) rfl)).nf⟩) hr (by omega) hgd C8.pass0 (op_eqDD (room_64 hr))) (fe_var (pv 11)) fe_int))))) (fss_one (fs_ret fe_bl)) fss_nil)
      (fss_one (fs_ret (fe_and (fe_cmpM (op_cmpA (fun _ _ => rfl) (all_1 ⟨(met_Moduli___eq___1 T), (T.cl _ (List.mem_of_getElem? (i := 0) rfl)).nf⟩) hr (by omega) hgd C8.pass0 (op_eqDD (room_64 hr))) (fe_var (pv 11)) (fe_make (mak_Moduli___init___2 T) hr (by omega) hgd (by rfl) C8.pass0 (args_1 (fa_cons fe_int (fa_cons (fe_tup (fa_cons fe_int (fa_cons fe_int (fa_cons fe_int (fa_cons fe_int fa_nil))))) fa_nil))))) (fe_one (fe_cmp (op_eqDD (room_64 hr)) (fe_callB (call_reprD hgd (room_u hr)) (by rfl) (T.fr "repr" (List.mem_of_getElem? (i := 10) rfl)) (by decide +kernel) (fa_cons (fe_attr (all_1 (prp_Moduli_form T)) all_0 hr (by omega) hgd (fe_make (mak_Moduli___init___2 T) hr (by omega) hgd (by rfl) C8.pass0 (args_1 (fa_cons fe_int (fa_cons (fe_tup fa_nil) fa_nil))))) fa_nil)) (fe_callB (call_reprD hgd (room_u hr)) (by rfl) (T.fr "repr" (List.mem_of_getElem? (i := 10) rfl)) (by decide +kernel) (fa_cons (fe_tup (fa_cons fe_int (fa_cons (fe_tup fa_nil) (fa_cons (fe_tup fa_nil) fa_nil)))) fa_nil)))))))))))))))
end
end K50
end
section
set_option Elab.async false
set_option linter.all false
set_option maxRecDepth 100000
set_option autoImplicit false
set_option maxHeartbeats 0
namespace K50
open PySem PySem.Spec PyProof.Rows L2 FL
theorem top_of {w : World} {h h' : Heap} {K : PySem.W.Frag} {mg : Str → Option Value} (X : K.In h) (G : h.Ns mainGlobals mg) (c : He.SaysX fas (dfs ++ mdf) [] [] cok w h' K) (g1 : gdf.all (fun q => okA K (pAd K q.1) q.2) = true) (g2 : gdf.map (fun q => fnA K (pAd K q.1)) = valsG gdf) : TT K mg := by
  have cd := c.t.d
  have ck := c.more
  obtain ⟨k1, ck⟩ := Bool.and_eq_true_iff.mp ck
  obtain ⟨k2, ck⟩ := Bool.and_eq_true_iff.mp ck
  obtain ⟨k3, k4⟩ := Bool.and_eq_true_iff.mp ck
  have glo : ∀ x : Str, fas.any (fun f => match f with | .glo y => decide (y = x) | _ => false) = true → mg x = some (.ref (He.ga K x)) := fun x hx => by
    obtain ⟨f, hf, hq⟩ := List.any_eq_true.mp hx
    cases f with
    | glo y =>
      have e := of_decide_eq_true hq
      rw [e] at hf
      exact He.glo_ok X G (cd.facts hf)
    | _ => cases hq
  refine { fr := fun x hx => ?_, con := fun q hq => ?_, df := fun d hd => ?_, cl := fun r hr => ?_, cgl := fun x hx => ?_, cm := fun q hq => ?_, mt := fun d hd => ?_, gt := fun q hq => gp_fun g1 g2 hq, al := fun x hx => ?_, dfc := fun q hq => List.all_eq_true.mp k4 q hq }
  · exact He.free_ok X G (cd.facts (f := .free x) (List.mem_append_right _ (List.mem_map_of_mem (f := He.Fa.free) hx)))
  · exact con_ok X G (List.all_eq_true.mp k1 q hq)
  · obtain ⟨fd, F⟩ := cd.defs (List.mem_append_left _ hd)
    refine ⟨fd, F, ?_⟩
    have all : dfs.all (fun d => decide (d.at_ = (d.name, none)) && fas.any (fun f => match f with | .glo y => decide (y = d.name) | _ => false)) = true := by decide +kernel
    obtain ⟨a1, a2⟩ := Bool.and_eq_true_iff.mp (List.all_eq_true.mp all d hd)
    rw [glo _ a2, of_decide_eq_true a1]
    rfl
  · exact cOk_of (List.all_eq_true.mp k2 r hr)
  · have all : csn.all (fun x => fas.any (fun f => match f with | .glo y => decide (y = x) | _ => false)) = true := by decide +kernel
    exact glo _ (List.all_eq_true.mp all x hx)
  · exact cmB_ok (List.all_eq_true.mp k3 q hq)
  · exact cd.defs (List.mem_append_right _ hd)
  · have all : aln.all (fun x => fas.any (fun f => match f with | .glo y => decide (y = x) | _ => false)) = true := by decide +kernel
    exact glo _ (List.all_eq_true.mp all x hx)
end K50
end
section
set_option Elab.async false
set_option linter.all false
set_option maxRecDepth 100000
set_option autoImplicit false
set_option maxHeartbeats 8000000
namespace SS.Q50
open PySem PySem.Spec PyProof.Rows L2 FL SS
local macro_rules
  | `(tactic| simp_arith only [$xs,*]) => `(tactic| simp (config := { implicitDefEqProofs := false }) only [tn_ok, oR_some, nx_ok, ev_var, ev_c, ev_bin, ev_kBin1, ev_kBin2, ev_un, ev_kUn, ev_asB, ev_kB, ev_asT, ev_kT, ev_tAnd2, ev_kAndT, ev_kAndF, ev_tOr2, ev_kOrT, ev_kOrF, ev_not, ev_kNot, ev_eAnd2, ev_kAndE, ev_kAndET, ev_kAndEF, ev_eOr2, ev_kOrE, ev_kOrET, ev_kOrEF, ev_eNot1, ev_kNotE, ev_kNotE2, ev_if, ev_kIfT, ev_kIfF, ev_aNil, ev_aCons, ev_kCons, ev_kCons2, ev_aStar, ev_kStar, ev_kStar2, ev_kStar3, ev_eTup, ev_kTup, ev_kTup2, ev_eLst, ev_kLst, ev_kLst2, ev_eNewL, ev_kNewL, ev_kNewL2, ev_newD, ev_callP, ev_kCallP, ev_call, ev_kCall, ev_kCall2, ev_oNone, ev_oSome, ev_kO, ev_kO2, ev_sl, ev_kSl, ev_kSl2, ev_kSl3, ev_sl3, ev_kT1, ev_kT2, ev_kT3, ev_kT4, ev_listRg, ev_kLR, ev_kLR2, ev_forM, ev_forMr, ev_forMl, ev_forMt, ev_forR, ev_meth, ev_kM, ev_kM2, ev_kM3, ev_meth0, ev_kM0, ev_chain, ev_kCh, ev_kCh2, ev_kCh3T, ev_kCh3F, ev_kCh4, ev_kLs, ev_kComp, ev_comp, ev_kRef, ev_compM, ev_kComp2, ev_comp2, ev_iSeq, ev_kIt, ev_iRange, ev_kRg, ev_enT, ev_enL, ev_iEnum, items_lst, items_tup, items_str, ev_true, ev_ret, ev_kRet, ev_expr, ev_kEx, ev_asg, ev_kAsg, ev_kNx, ev_seq, ev_kSeqN, ev_kSeqR, ev_kSeqB, ev_kSeqC, ev_ifS, ev_kIfST, ev_kIfSF, ev_for, ev_kFor, ev_next, ev_retN, ev_break, ev_cont, ev_par, ev_kPar, ev_par3, ev_kPar3, ev_gName, ev_gTup, ev_gsNil, ev_gsCons, ev_kGs, ev_gSub, ev_kSub, ev_kSub2, ev_kSub3, ev_kSub4, ev_mut, ev_kMu, ev_kMu2, ev_kMu3, ev_kMu4, ev_catM, ev_kCat, ev_kCat2, ev_catR, vw_non, vw_bl, vw_int, vw_str, vw_lst, vw_tup, vw_dct, vw_ref, vwO_lst, vwO_dct, tru_bl, tru_int, tru_lst, tru_tup, tru_non, add_int, add_lst, add_tup, add_str, sub_int, neg_int, gt_int, ge_int, lt_int, le_int, len_lst, len_tup, len_dct, len_str, int_int, tuple_lst, tuple_tup, list_lst, list_tup, sl_lst, sl_tup, is_non, isnt_non, non_bl, non_int, non_str, non_lst, non_tup, non_non, int_int?, ref_ref?, alt_tup, alt_lst, isi_int_non, isi_int_bl, isi_int_int, isi_int_str, isi_int_lst, isi_int_tup, isi_bool_non, isi_bool_bl, isi_bool_int, isi_bool_str, isi_bool_lst, isi_bool_tup, isi_str_non, isi_str_bl, isi_str_int, isi_str_str, isi_str_lst, isi_str_tup, isi_tuple_non, isi_tuple_bl, isi_tuple_int, isi_tuple_str, isi_tuple_lst, isi_tuple_tup, isi_list_non, isi_list_bl, isi_list_int, isi_list_str, isi_list_lst, isi_list_tup, isi_dict_non, isi_dict_bl, isi_dict_int, isi_dict_str, isi_dict_lst, isi_dict_tup, tyIn_lst2, tyD_lst, tyIn_tup2, tyD_tup, tyIn_str, tyD_str, tyIn_dct, tyD_dct, ev_cStep, ev_kC, ev_kC2T, ev_kC2F, ev_kSome, ev_cStep2, ev_kD, ev_kD2T, ev_kD2F, ev_kD3, ev_lStep, ev_kL, List.getElem?_cons_zero, List.getElem?_cons_succ, Option.join_some, Option.bind_some, Option.map_some, wipeE, List.set_cons_zero, List.set_cons_succ, List.length_cons, List.length_nil, List.map_cons, List.map_nil, gAll, gDef, List.cons_append, List.nil_append, if_true, if_false, Bool.not_true, Bool.not_false, Nat.zero_add, Nat.reduceAdd, Nat.reduceLeDiff, and_true, and_self, true_and, reduceIte, Bool.false_eq_true, $xs,*])
open K50 hiding B_law
theorem o_dip : SpDip F__law_dip := law_dip_ok
theorem o_pick : SpPickG F__law_pick := law_pickG_ok o_dip
theorem o_gcd : SpGcdB 390 F__law_gcd := law_gcd_ok
theorem o_drawn : SpDrawn F__law_drawn_set := law_drawn_ok o_dip o_gcd o_pick
theorem o_lcm : SpLcm 390 F__law_lcm := law_lcm_ok o_gcd (by omega)
theorem o_least : SpLeastL F__law_least := law_least_ok o_lcm
theorem o_in : SpInL F__law_in := law_in_ok o_gcd
theorem o_other : SpOther F__law_other := law_other_ok o_gcd o_in
theorem o_wrapped : SpWrap F__law_wrapped := law_wrapped_ok o_gcd o_pick
theorem o_told : SpToldL F__law_told := law_told_ok o_in
theorem o_spring : SpSpring F__law_spring := law_spring_ok
theorem p_req : SpReq F_require_given := require_given_ok
theorem p_leasts : SpLeasts F_leasts_of := leasts_of_ok
theorem p_cd : SpGcdB 1000 F_common_divisor := common_divisor_ok 1000
theorem p_lcm : SpLcm 1000 F_lcm_of := lcm_of_ok p_cd (by omega)
theorem p_root : SpRoot F_root_above := root_above_ok
theorem p_divs : SpDivs F_divisors_of := divisors_of_ok p_root
theorem p_told : SpToldG F_told_form_modulisets := told_form_ok p_cd p_divs p_lcm p_leasts
theorem p_int : SpIntG F_is_integer := is_integerG_ok
theorem p_num : SpNumG F_is_number := is_numberG_ok p_int
theorem p_mod : SpModG F_is_modulus := is_modulusG_ok p_num
theorem p_ris : SpRisN F_is_rising := is_risingN_ok
theorem p_modt : SpModT F_are_moduli_in := are_moduli_ok p_mod p_ris
theorem p_closed : SpClosed F_are_closed := are_closed_ok p_modt p_divs
theorem p_init : SpInit F_Moduli___init__ := init_ok p_closed p_modt p_cd p_mod p_req p_told
theorem p_has : SpHas F_has_modulus := has_modulus_ok p_cd
theorem p_cont : SpCont F_Moduli___contains__ := contains_ok p_has p_mod
theorem p_mulN : ∀ k, SpMulTo k (FR_multiples_to k)
  | 0 => fun _ _ _ _ _ h => absurd h (by omega)
  | k + 1 => multiples_step p_lcm (p_mulN k)
theorem p_mul : SpMulTo 64 F_multiples_to := p_mulN 64
theorem p_many : SpMany F_many_to := many_to_ok p_leasts p_mul (by omega)
theorem p_nth : SpNth F_nth_of := nth_of_ok p_many
theorem p_least : SpLeast F_Moduli_least := least_ok p_nth
theorem p_lb : SpBits F_least_bits := least_bits_ok p_has
theorem p_bits : SpBitsM F_Moduli_bits := bitsM_ok p_lb
theorem p_allf : SpAllFrom F_Moduli_all_from := all_from_ok
theorem p_item : SpItem F_Moduli___getitem__ := getitem_ok p_num p_nth p_req
theorem p_eq : SpEqM F_Moduli___eq__ := eqM_ok
theorem p_form : SpForm F_Moduli_form := form_ok
theorem p_period : SpPart F_Moduli_period fun P _ _ => iN P := period_ok
theorem p_divisors : SpPart F_Moduli_divisors fun _ G _ => .tup (G.map iN) := divisors_ok
theorem p_exceptions : SpPart F_Moduli_exceptions fun _ _ O => .tup (O.map iN) := exceptions_ok
/-! ## the methods over what is drawn -/
section
variable {P : Nat} {G O : List Nat} (d : Dw P G O)
include d
abbrev W (G : List Nat) : Nat := lcmL (leasts G)
theorem hasW : hasB (W G) (late G) O = hasB P G O := funext d.v.has
theorem ins_at {k x : Nat} (h : (insL P G O)[k]? = some x) : cnt (hasB (W G) (late G) O) x = k + 1 ∧ cnt (hasB (W G) (late G) O) (x - 1) = k := by
  rw [hasW d]
  obtain ⟨_, _, _, a, b⟩ := nth_list (hasB P G O) _ k x h
  exact ⟨a, b⟩
theorem ins_ne : insL P G O = [] ↔ G = [] := by
  constructor
  · intro h
    rcases Classical.em (G = []) with e | e
    · exact e
    · obtain ⟨n, a, b, c⟩ := d.v.some e
      have : n ∈ insL P G O := List.mem_filter.mpr ⟨by rw [List.mem_range'_1]; omega, c⟩
      rw [h] at this
      cases this
  · intro h
    subst h
    exact List.filter_eq_nil_iff.mpr fun n _ => by rw [hasB_nil]; simp
theorem least_val (S : Sto) : F_Moduli_least [mO (W G) (late G) O] S = .ok (optN (insL P G O).head?) S := by
  obtain ⟨h1, h2⟩ := p_least (W G) (late G) O S d.v.told
  cases hi : insL P G O with
  | nil =>
    have g0 := (ins_ne d).mp hi
    exact h1 (d.v.clo.late_nil.mpr g0)
  | cons a L =>
    have g0 : late G ≠ [] := fun z => by
      have := (ins_ne d).mpr (d.v.clo.late_nil.mp z)
      rw [hi] at this
      cases this
    obtain ⟨c1, c2⟩ := ins_at d (k := 0) (x := a) (by rw [hi]; rfl)
    obtain ⟨x, e, a1, a2⟩ := h2 g0 ⟨a, by omega⟩
    rw [nth_uniq c1 c2 a1 a2] at e
    exact e
theorem item_val (S : Sto) {k : Nat} (hk : k < (insL P G O).length) : F_Moduli___getitem__ [mO (W G) (late G) O, iN k] S = .ok (iN ((insL P G O).getD k 0)) S := by
  have g : (insL P G O)[k]? = some ((insL P G O).getD k 0) := by simp [List.getD, List.getElem?_eq_getElem hk]
  obtain ⟨c1, c2⟩ := ins_at d g
  have g0 : late G ≠ [] := fun z => by
    have := (ins_ne d).mpr (d.v.clo.late_nil.mp z)
    rw [this] at hk
    simp at hk
  obtain ⟨x, e, a1, a2⟩ := p_item (W G) (late G) O k S d.v.told g0 ⟨_, by rw [c1]; omega⟩
  rw [nth_uniq c1 c2 a1 a2] at e
  exact e
theorem bits_val (S : Sto) : F_Moduli_bits [mO (W G) (late G) O] S = .ok (optN ((List.range 14).find? fun e => hasB P G O (2 ^ e))) S := by
  obtain ⟨v, r, a, b, e⟩ := p_bits (W G) (late G) O S d.v.told
  obtain ⟨_, _, p2⟩ := wholes_ok P d.w
  have v3 : v ≤ 3 := by
    rcases Nat.lt_or_ge 3 v with l | l
    · exact absurd (Nat.dvd_trans (Nat.pow_dvd_pow 2 l : 2 ^ 4 ∣ 2 ^ v) (Nat.dvd_trans ⟨r, a⟩ d.v.clo.whole)) p2
    · exact l
  have lo := d.lo
  have f := find_two (f := fun e => hasB (W G) (late G) O (2 ^ e)) (m := v + O.length) (a := O.length + 1 + v + 1) (b := 14) (fun e he => d.v.told.pow a b he) (by omega) (by omega)
  rw [e, f, hasW d]
theorem allf_val (S : Sto) : F_Moduli_all_from [mO (W G) (late G) O] S = .ok (endD G O) S := by
  rw [p_allf]
  unfold endD
  by_cases h : 1 ∈ G
  · rw [if_pos h, if_pos (d.v.clo.one h)]
  · rw [if_neg h, if_neg (d.v.clo.not_one h)]
theorem cont_val (S : Sto) {n : Nat} (hn : 0 < n) : F_Moduli___contains__ [mO (W G) (late G) O, iN n] S = .ok (.bl (hasB P G O n)) S := by
  rw [(p_cont (W G) (late G) O (iN n) S d.v.told.le rfl).1 n hn rfl, hasW d]
theorem odd_val (S : Sto) {x : D} (hx : nr x = true) (hm : isMod x = false) : F_Moduli___contains__ [mO (W G) (late G) O, x] S = .ok (.bl false) S :=
  (p_cont (W G) (late G) O x S d.v.told.le hx).2 hm
theorem in_val (S : Sto) {n : Nat} (hn : 0 < n) : F__law_in [formD P G O, iN n] S = .ok (.bl (hasB P G O n)) S := by
  obtain ⟨_, p1, _⟩ := wholes_ok P d.w
  rw [o_in P G O n S (by omega), decide_eq_true hn, Bool.true_and]
end
/-! ## shown forms -/
theorem rp_nats {L : List Nat} {m : Nat} (h : ∀ l ∈ L, l ≤ 1000) (hm : L.length ≤ m) : Rp 1 (m * 64 + 3) (.lst (L.map iN)) ∧ Rp 1 (m * 64 + 3) (.tup (L.map iN)) :=
  rp_map iN (k := 0) (n := 62) (fun l hl => rp_int 0 (by have := h l hl; omega)) hm
theorem rp_form {P : Nat} {G O : List Nat} (hP : P ≤ 1000) (hG : ∀ g ∈ G, g ≤ 1000) (lG : G.length ≤ 100) (hO : ∀ o ∈ O, o ≤ 1000) (lO : O.length ≤ 100) : Rp 2 20000 (formD P G O) := by
  refine (rp_seq (k := 1) (n := 6403) (m := 3) (fun x hx => ?_) (by simp)).2.mono (Nat.le_refl _) (by omega)
  simp only [List.mem_cons, List.not_mem_nil, or_false] at hx
  rcases hx with rfl | rfl | rfl
  · exact (rp_int 1 (by omega)).mono (Nat.le_refl _) (by omega)
  · exact (rp_nats hG lG).2.mono (Nat.le_refl _) (by omega)
  · exact (rp_nats hO lO).2.mono (Nat.le_refl _) (by omega)
theorem clo_le {P : Nat} {G O : List Nat} (v : Vm P G O) : (∀ g ∈ G, g ≤ 1000) := fun g hg => by
  have := Nat.le_of_dvd v.clo.pos (v.clo.dv g hg)
  have := v.le
  omega
theorem str_ne (x : Str) : neD (.str x) (.str x) = some (.bl false) := by rw [neD_str]; simp
theorem str_eqq (x : Str) : eqD (.str x) (.str x) = some (.bl true) := by rw [eqD_str]; simp
/-! ## the turns of the inner loops -/
section
variable {P : Nat} {G O : List Nat} (d : Dw P G O) {x0 x1 x3 x4 x6 x8 x9 x10 x11 x12 : Option D}
include d
theorem ask1 {S : Sto} : ∀ (ns : List Nat) (x7 : Option D), (∀ n ∈ ns, 0 < n) → ∃ y7, loopD (gName' 7) B_law_L1 (ns.map iN) [x0, x1, some (formD P G O), x3, x4, some (mO (W G) (late G) O), x6, x7, x8, x9, x10, x11, x12] S = .ok (.nx [x0, x1, some (formD P G O), x3, x4, some (mO (W G) (late G) O), x6, y7, x8, x9, x10, x11, x12]) S
  | [], x7, _ => ⟨x7, rfl⟩
  | n :: ns, x7, h => by
    have n0 := h n List.mem_cons_self
    obtain ⟨y7, e⟩ := ask1 ns (some (iN n)) fun m hm => h m (List.mem_cons_of_mem _ hm)
    refine ⟨y7, ?_⟩
    have c1 := cont_val d S n0
    have c2 := in_val d S n0
    rw [List.map_cons, loopD_step (r' := [x0, x1, some (formD P G O), x3, x4, some (mO (W G) (late G) O), x6, some (iN n), x8, x9, x10, x11, x12]) (S' := S) (by
      have nb : neD (.bl (hasB P G O n)) (.bl (hasB P G O n)) = some (.bl false) := by rw [neD_bl]; cases hasB P G O n <;> rfl
      have b0 : bR false (.ok (.bl (hasB P G O n)) S) = .ok (.bl (hasB P G O n)) S := by cases hasB P G O n <;> rfl
      unfold formD at c2 ⊢
      simp_arith only [B_law_L1, ev_binM, ev_kBM, hIn_mO, c1, b0, c2, nb])]
    exact e
def bigN : List Nat := [10 ^ 3, 10 ^ 20, 10 ^ 59]
theorem big_at {m : Nat} (h : m < 3) : atI [iN (10 ^ 3), iN (10 ^ 20), iN (10 ^ 59)] (m : Int) = some (iN (bigN.getD m 0)) := atI_nat (by
  match m, h with
  | 0, _ => rfl
  | 1, _ => rfl
  | 2, _ => rfl)
omit d in
theorem big_pow : powD (.int 10) (.int 3) = some (iN (10 ^ 3)) ∧ powD (.int 10) (.int 20) = some (iN (10 ^ 20)) ∧ powD (.int 10) (.int 59) = some (iN (10 ^ 59)) := by
  refine ⟨?_, ?_, ?_⟩ <;> (rw [powD_small (by omega) (by omega) (by decide)]; rfl)
theorem ask2 {i : Nat} : ∀ (ks : List Nat) (S : Sto) (n : Nat) (x7 x8 : Option D), (∀ k ∈ ks, k < 3) → GTp S i n → n + ks.length ≤ 100000 → ∃ y7 y8 S', loopD (gName' 8) B_law_L2 (ks.map iN) [x0, some (.ref i), some (formD P G O), x3, x4, some (mO (W G) (late G) O), x6, x7, x8, x9, x10, x11, x12] S = .ok (.nx [x0, some (.ref i), some (formD P G O), x3, x4, some (mO (W G) (late G) O), x6, y7, y8, x9, x10, x11, x12]) S' ∧ GCh S S' i (n + ks.length)
  | [], S, n, x7, x8, _, t, _ => ⟨x7, x8, S, rfl, GCh.refl t⟩
  | k :: ks, S, n, x7, x8, h, t, hn => by
    rw [List.length_cons] at hn
    obtain ⟨v, S1, hv, e1, c1⟩ := o_dip S i n 120 t (by omega) (by omega) (by omega)
    have e1 : F__law_dip [.ref i, .int 120] S = .ok (iN v) S1 := e1
    have k3 := h k List.mem_cons_self
    obtain ⟨q, hq⟩ : ∃ q, q = bigN.getD k 0 + v := ⟨_, rfl⟩
    have q0 : 0 < q := by
      have : 0 < bigN.getD k 0 := by
        match k, k3 with
        | 0, _ => decide
        | 1, _ => decide
        | 2, _ => decide
      omega
    obtain ⟨y7, y8, S', e, ch⟩ := ask2 ks S1 (n + 1) (some (iN q)) (some (iN k)) (fun m hm => h m (List.mem_cons_of_mem _ hm)) c1.tp (by omega)
    refine ⟨y7, y8, S', ?_, by rw [List.length_cons]; exact (c1.trans ch).mono (by omega)⟩
    have a1 := cont_val d S1 q0
    have a2 := in_val d S1 q0
    obtain ⟨p1, p2, p3⟩ := big_pow
    have f3 : few [iN (10 ^ 3), iN (10 ^ 20), iN (10 ^ 59)] = some [iN (10 ^ 3), iN (10 ^ 20), iN (10 ^ 59)] := few_ok (by simp)
    have at3 := big_at d k3
    have sm : ((bigN.getD k 0 : Nat) : Int) + (v : Int) = (q : Int) := by omega
    generalize bigN.getD k 0 = bk at *
    generalize (10 ^ 3 : Nat) = b3 at *
    generalize (10 ^ 20 : Nat) = b20 at *
    generalize (10 ^ 59 : Nat) = b59 at *
    rw [List.map_cons, loopD_step (r' := [x0, some (.ref i), some (formD P G O), x3, x4, some (mO (W G) (late G) O), x6, some (iN q), some (iN k), x9, x10, x11, x12]) (S' := S1) (by
      have nb : neD (.bl (hasB P G O q)) (.bl (hasB P G O q)) = some (.bl false) := by rw [neD_bl]; cases hasB P G O q <;> rfl
      have b0 : bR false (.ok (.bl (hasB P G O q)) S1) = .ok (.bl (hasB P G O q)) S1 := by cases hasB P G O q <;> rfl
      unfold formD at a2 ⊢
      simp_arith only [B_law_L2, p1, p2, p3, f3, ixD_lst, at3, e1, sm, ev_binM, ev_kBM, hIn_mO, a1, b0, a2, nb])]
    exact e
theorem ask3 {S : Sto} {x7 : Option D} : ∀ (ds : List D) (x9 : Option D), (∀ x ∈ ds, nr x = true ∧ isMod x = false) → ∃ y9, loopD (gName' 9) B_law_L3 ds [x0, x1, some (formD P G O), x3, x4, some (mO (W G) (late G) O), x6, x7, x8, x9, x10, x11, x12] S = .ok (.nx [x0, x1, some (formD P G O), x3, x4, some (mO (W G) (late G) O), x6, x7, x8, y9, x10, x11, x12]) S
  | [], x9, _ => ⟨x9, rfl⟩
  | x :: ds, x9, h => by
    obtain ⟨n1, n2⟩ := h x List.mem_cons_self
    obtain ⟨y9, e⟩ := ask3 ds (some x) fun m hm => h m (List.mem_cons_of_mem _ hm)
    refine ⟨y9, ?_⟩
    have c1 := odd_val d S n1 n2
    have b0 : bR false (.ok (.bl false) S) = .ok (.bl false) S := rfl
    rw [loopD_step (r' := [x0, x1, some (formD P G O), x3, x4, some (mO (W G) (late G) O), x6, x7, x8, some x, x10, x11, x12]) (S' := S) (by
      simp_arith only [B_law_L3, ev_binM, ev_kBM, hIn_mO, c1, b0])]
    exact e
end
/-! ## a turn: one way of telling it -/
theorem items_comp {P : Nat} {G O : List Nat} (d : Dw P G O) {S : Sto} {r : List (Option D)} (hr : r.length = 12) (h5 : r[5]? = some (some (mO (W G) (late G) O))) :
    compD (gName' 12) tTrue B_law_E1 (r ++ [none]) ((List.range ((insL P G O).take 9).length).map iN) [] S = .ok (((insL P G O).take 9).map iN) S := by
  have ll : ((insL P G O).take 9).length ≤ (insL P G O).length := by rw [List.length_take]; omega
  have l9 : ((insL P G O).take 9).length ≤ 9 := by rw [List.length_take]; omega
  have e := compD_map (S := S) (b := gName' 12) (t := tTrue) (e := B_law_E1) (r0 := r ++ [none]) iN (fun k => iN ((insL P G O).getD k 0)) (List.range ((insL P G O).take 9).length) (fun k hk => by
    have hk := List.mem_range.mp hk
    have iv := item_val d S (k := k) (by omega)
    match r, hr, h5 with
    | [r0, r1, r2, r3, r4, r5, r6, r7, r8, r9, r10, r11], _, h5 =>
      have h5 : some r5 = some (some (mO (W G) (late G) O)) := h5
      injection h5 with h5
      subst h5
      simp_arith only [B_law_E1, ev_binM, ev_kBM, hIx_mO, iv]) (by simp; omega)
  rw [e]
  congr 1
  refine List.ext_getElem? fun j => ?_
  rw [List.getElem?_map, List.getElem?_map]
  by_cases hj : j < ((insL P G O).take 9).length
  · rw [List.getElem?_range hj, List.getElem?_eq_getElem hj]
    simp only [Option.map_some, List.getElem_take]
    rw [List.getD_eq_getElem?_getD, List.getElem?_eq_getElem (by omega)]
    rfl
  · rw [List.getElem?_eq_none_iff.mpr (by rw [List.length_range]; omega), List.getElem?_eq_none_iff.mpr (by omega)]
    rfl
def oddL : List D := [.int 0, .int (-1), .bl true, .non, .str "1", .tup [.int 1], .lst [.int 1], .int 0]
theorem odd_ok : ∀ x ∈ oddL, nr x = true ∧ isMod x = false := by
  intro x hx
  simp only [oddL, List.mem_cons, List.not_mem_nil, or_false] at hx
  rcases hx with rfl | rfl | rfl | rfl | rfl | rfl | rfl | rfl <;> exact ⟨rfl, rfl⟩
theorem dw_le {P : Nat} {G O : List Nat} (d : Dw P G O) : (∀ o ∈ O, o ≤ 1000) ∧ O.length ≤ 100 := ⟨fun o ho => by have := d.ob o ho; omega, by have := d.lo; omega⟩
theorem topN_le {P : Nat} {G O : List Nat} (d : Dw P G O) : topN O ≤ 300 := by
  rcases topN_mem (O := O) with q | q
  · omega
  · exact d.ob _ q
theorem insL_le {P : Nat} {G O : List Nat} (d : Dw P G O) : ∀ n ∈ insL P G O, n ≤ 1000 := fun n hn => by
  have := List.mem_range'_1.mp (List.mem_filter.mp hn).1
  have := topN_le d
  obtain ⟨_, p1, _⟩ := wholes_ok P d.w
  omega
theorem rp_told {P : Nat} {G O : List Nat} (d : Dw P G O) : ∃ t, reprD [.lst [optN (insL P G O).head?, optN ((List.range 14).find? fun e => hasB P G O (2 ^ e)), endD G O]] = some (.str t) := by
  have a : Rp 0 62 (optN (insL P G O).head?) := by
    cases h : (insL P G O).head? with
    | none => exact rp_non 0
    | some n => exact rp_int 0 (by have := insL_le d n (List.mem_of_head? h); omega)
  have b : Rp 0 62 (optN ((List.range 14).find? fun e => hasB P G O (2 ^ e))) := by
    cases h : (List.range 14).find? fun e => hasB P G O (2 ^ e) with
    | none => exact rp_non 0
    | some n => exact rp_int 0 (by have := List.mem_range.mp (List.mem_of_find?_eq_some h); omega)
  have c : Rp 0 62 (endD G O) := by
    unfold endD
    split
    · exact rp_int 0 (by have := topN_le d; omega)
    · exact rp_non 0
  refine ⟨_, reprb_ok (rp_seq (k := 0) (n := 62) (m := 3) (fun x hx => ?_) (by simp)).1 (by omega) (by omega)⟩
  simp only [List.mem_cons, List.not_mem_nil, or_false] at hx
  rcases hx with rfl | rfl | rfl <;> assumption
theorem turn {P : Nat} {G O : List Nat} (d : Dw P G O) {P' : Nat} {G' : List Nat} (v' : Vm P' G' O) (hl : leasts G' = leasts G) {S : Sto} {n : Nat} (t : GTp S 0 n) (hn : n ≤ 90000) {x0 x4 x5 x6 x7 x8 x9 x10 x11 : Option D} :
    ∃ S' y5 y6 y7 y8 y9, GCh S S' 0 (n + 3) ∧ lStep (gName' 4) B_law_L4 (formD P' G' O) [x0, some (.ref 0), some (formD P G O), some (formD (W G) (late G) O), x4, x5, x6, x7, x8, x9, x10, x11, none] S =
      .ok (.nx [x0, some (.ref 0), some (formD P G O), some (formD (W G) (late G) O), some (formD P' G' O), y5, y6, y7, y8, y9, x10, x11, none]) S' := by
  have w' : lcmL (leasts G') = W G := by rw [hl]
  have l' : late G' = late G := by
    show goods (lcmL (leasts G')) (leasts G') = _
    rw [hl]
    rfl
  have mk1 : ∀ T : Sto, kMk2 "Moduli" 3 0 (gDef []) F_Moduli___init__ [iN P', .tup (G'.map iN), .tup (O.map iN)] [] T = .ok (mO (W G) (late G) O) T := fun T => by
    have e := make_ok p_init v' (n := 3) (m := 0) (g := gDef []) (ds := [iN P', .tup (G'.map iN), .tup (O.map iN)]) (es := []) (S := T) rfl rfl rfl
    rw [w', l'] at e
    exact e
  have mk2 : ∀ T : Sto, kMk2 "Moduli" 3 0 (gDef []) F_Moduli___init__ [iN (W G), .tup ((late G).map iN), .tup (O.map iN)] [] T = .ok (mO (W G) (late G) O) T := fun T => by
    have e := make_ok p_init d.v.told (n := 3) (m := 0) (g := gDef []) (ds := [iN (W G), .tup ((late G).map iN), .tup (O.map iN)]) (es := []) (S := T) rfl rfl rfl
    obtain ⟨a, b⟩ := d.v.same
    rw [a, b] at e
    exact e
  obtain ⟨o1, o2⟩ := dw_le d
  have vt := d.v.told
  have rf := rp_form vt.le (clo_le vt) (by have := vt.few; omega) o1 o2
  obtain ⟨tx, rp1⟩ : ∃ tx, reprD [.lst [formD (W G) (late G) O, iN (W G), .tup ((late G).map iN), .tup (O.map iN)]] = some (.str tx) := by
    refine ⟨_, reprb_ok (rp_seq (k := 2) (n := 20000) (m := 4) (fun x hx => ?_) (by simp)).1 (by omega) (by omega)⟩
    simp only [List.mem_cons, List.not_mem_nil, or_false] at hx
    rcases hx with rfl | rfl | rfl | rfl
    · exact rf
    · exact (rp_int 2 (by have : W G ≤ 1000 := vt.le; omega)).mono (Nat.le_refl _) (by omega)
    · exact (rp_nats (clo_le vt) (m := 60) vt.few).2.mono (by omega) (by omega)
    · exact (rp_nats o1 (m := 100) o2).2.mono (by omega) (by omega)
  obtain ⟨ty, rp2⟩ := rp_told d
  have e1 := p_form (W G) (late G) O S
  have e2 := p_period (W G) (late G) O S
  have e3 := p_divisors (W G) (late G) O S
  have e4 := p_exceptions (W G) (late G) O S
  have e5 := o_told P G O S d
  have e6 := least_val d S
  have e7 := bits_val d S
  have e8 := allf_val d S
  have f4 : ∀ a b c e : D, few [a, b, c, e] = some [a, b, c, e] := fun _ _ _ _ => few_ok (by simp)
  have f3 : ∀ a b c : D, few [a, b, c] = some [a, b, c] := fun _ _ _ => few_ok (by simp)
  have tk : cutL (toldL P G O) none (some 3) = [optN (insL P G O).head?, optN ((List.range 14).find? fun e => hasB P G O (2 ^ e)), endD G O] := by
    have := cut_take' (toldL P G O) 3
    exact this
  have t3 : atI (toldL P G O) 3 = some (.lst (((insL P G O).take 9).map iN)) := atI_nat (i := 3) rfl
  have l9 : ((insL P G O).take 9).length ≤ 9 := by rw [List.length_take]; omega
  have rg : rangeD1 [.int (((((insL P G O).take 9).map iN).length : Nat) : Int)] = some ((List.range ((insL P G O).take 9).length).map iN) := by
    rw [List.length_map]
    exact range1 (by omega)
  have ic := items_comp d (S := S) (r := [x0, some (.ref 0), some (formD P G O), some (formD (W G) (late G) O), some (formD P' G' O), some (mO (W G) (late G) O), some (.lst (toldL P G O)), x7, x8, x9, x10, x11]) rfl rfl
  have nl : neD (.lst (((insL P G O).take 9).map iN)) (.lst (((insL P G O).take 9).map iN)) = some (.bl false) := by
    rw [neD_pn (pn_nats _).2 (pn_nats _).2]
    exact congrArg (fun b => some (D.bl (!b))) (@decide_eq_true _ (Classical.propDecidable _) rfl)
  have eq1 := p_eq.1 (W G) (W G) (late G) O (late G) O S
  rw [decide_eq_true (⟨rfl, rfl, rfl⟩ : W G = W G ∧ late G = late G ∧ O = O)] at eq1
  have rg2 : rangeD2 [.int 1, .int 30] = some ((List.range' 1 29).map iN) := range_1 (q := 29) (by omega)
  have rg3 : rangeD1 [.int 3] = some ((List.range 3).map iN) := range1 (n := 3) (by omega)
  obtain ⟨y7, a1⟩ := ask1 d (x0 := x0) (x1 := some (.ref 0)) (x3 := some (formD (W G) (late G) O)) (x4 := some (formD P' G' O)) (x6 := some (.lst (toldL P G O))) (x8 := x8) (x9 := x9) (x10 := x10) (x11 := x11) (x12 := none) (S := S) (List.range' 1 29) x7 fun m hm => by
    rw [List.mem_range'_1] at hm
    omega
  obtain ⟨z7, y8, S', a2, ch⟩ := ask2 d (x0 := x0) (i := 0) (x3 := some (formD (W G) (late G) O)) (x4 := some (formD P' G' O)) (x6 := some (.lst (toldL P G O))) (x9 := x9) (x10 := x10) (x11 := x11) (x12 := none) (List.range 3) S n y7 x8 (fun k hk => List.mem_range.mp hk) t (by simp; omega)
  obtain ⟨y9, a3⟩ := ask3 d (x0 := x0) (x1 := some (.ref 0)) (x3 := some (formD (W G) (late G) O)) (x4 := some (formD P' G' O)) (x6 := some (.lst (toldL P G O))) (x7 := z7) (x8 := y8) (x10 := x10) (x11 := x11) (x12 := none) (S := S') oddL x9 odd_ok
  have f8 : few oddL = some oddL := few_ok (by simp [oddL])
  have f1 : few [D.int 1] = some [D.int 1] := few_ok (by simp)
  obtain ⟨pz, hpz⟩ : ∃ pz, powD (.int 10) (.int 30) = some (.int pz) := ⟨_, powD_small (by omega) (by omega) (by decide)⟩
  have mz : mulD (.int pz) (.int 0) = some (.int 0) := by rw [mulD_small (.inr (show FL.small64 0 = true from small_nat (l := 0) (by omega))), Int.mul_zero]
  refine ⟨S', some (mO (W G) (late G) O), some (.lst (toldL P G O)), z7, y8, y9, ch, ?_⟩
  have ic : compD (gName' 12) tTrue B_law_E1 [x0, some (.ref 0), some (formD P G O), some (formD (W G) (late G) O), some (formD P' G' O), some (mO (W G) (late G) O), some (.lst (toldL P G O)), x7, x8, x9, x10, x11, none] ((List.range ((insL P G O).take 9).length).map iN) [] S = .ok (((insL P G O).take 9).map iN) S := ic
  generalize toldL P G O = TL at *
  generalize ((insL P G O).take 9).map iN = T9 at *
  generalize (List.range ((insL P G O).take 9).length).map iN = R9 at *
  generalize optN (insL P G O).head? = v1 at *
  generalize optN ((List.range 14).find? fun e => hasB P G O (2 ^ e)) = v2 at *
  generalize endD G O = v3 at *
  unfold oddL at f8 a3
  unfold formD at *
  simp_arith only [B_law_L4, ixD_tup, ixD_lst, atI_0, atI_1, atI_2, ev_make, ev_kMk1, mk1, ev_attr, kAt_mO, e1, e2, e3, e4, f4, rp1, str_ne, e5, e6, e7, e8, f3, tk, rp2, t3, rg, ic, nl, ev_binM, ev_kBM, mk2, hCmp_mO, eq1, rg2, a1, rg3, a2, f1, hpz, mz, f8, a3]
/-! ## others -/
theorem other_loop {P : Nat} {G O : List Nat} (d : Dw P G O) {S : Sto} {x0 x1 x3 x5 x6 x7 x8 x9 x11 x12 : Option D} : ∀ (fs : List (List Nat × List Nat)) (x4 x10 : Option D), (∀ f ∈ fs, Ot P G O f) →
    ∃ y4 y10, loopD (gName' 4) B_law_L5 (fs.map (foD P)) [x0, x1, some (formD P G O), x3, x4, x5, x6, x7, x8, x9, x10, x11, x12] S = .ok (.nx [x0, x1, some (formD P G O), x3, y4, x5, x6, x7, x8, x9, y10, x11, x12]) S
  | [], x4, x10, _ => ⟨x4, x10, rfl⟩
  | f :: fs, x4, x10, h => by
    have o := h f List.mem_cons_self
    obtain ⟨y4, y10, e⟩ := other_loop d fs (some (foD P f)) (some (mO (W f.1) (late f.1) f.2)) fun g hg => h g (List.mem_cons_of_mem _ hg)
    refine ⟨y4, y10, ?_⟩
    have mk1 := make_ok p_init o.v (n := 0) (m := 3) (g := g_Moduli___init___1_exceptions_divisors_period) (ds := []) (es := [.tup (f.2.map iN), .tup (f.1.map iN), iN P]) (S := S) rfl rfl rfl
    have mk2 := make_ok p_init d.v (n := 3) (m := 0) (g := gDef []) (ds := [iN P, .tup (G.map iN), .tup (O.map iN)]) (es := []) (S := S) rfl rfl rfl
    have n1 : ¬ (W f.1 = W G ∧ late f.1 = late G ∧ f.2 = O) := fun z => o.ne z.2
    have n2 : ¬ (W G = W f.1 ∧ late G = late f.1 ∧ O = f.2) := fun z => o.ne ⟨z.2.1.symm, z.2.2.symm⟩
    have q1 := p_eq.1 (W f.1) (W G) (late f.1) f.2 (late G) O S
    have q2 := p_eq.1 (W G) (W f.1) (late G) O (late f.1) f.2 S
    rw [decide_eq_false n1] at q1
    rw [decide_eq_false n2] at q2
    rw [List.map_cons, loopD_step (r' := [x0, x1, some (formD P G O), x3, some (foD P f), x5, x6, x7, x8, x9, some (mO (W f.1) (late f.1) f.2), x11, x12]) (S' := S) (by
      unfold foD formD
      simp_arith only [B_law_L5, ixD_tup, atI_0, atI_1, atI_2, ev_make, ev_kMk1, mk1, mk2, ev_binM, ev_kBM, hCmp_mO, q1, q2])]
    exact e
/-! ## powers of two as exceptions -/
def PW : List Nat := (List.range 70).map fun e => 2 ^ e
theorem pw_ord : PW.Pairwise (· < ·) := by
  refine List.pairwise_map.mpr (List.pairwise_lt_range.imp fun {a b} l => Nat.pow_lt_pow_right (by omega) l)
theorem clo1 : Clo 1 [1] := ⟨by omega, by simp, by simp, fun x hx e _ h => by
  have : e = 1 := Nat.dvd_one.mp h
  subst this
  simp⟩
theorem vm_pw : Vm 1 [1] PW := ⟨clo1, by omega, by simp, pw_ord, fun o ho => by
  obtain ⟨e, _, rfl⟩ := List.mem_map.mp ho
  exact ⟨Nat.two_pow_pos e, by rw [Nat.gcd_one_right]; simp⟩, by simp [PW]⟩
theorem told1 : W [1] = 1 ∧ late [1] = [1] := by
  refine ⟨?_, clo1.one (by simp)⟩
  show lcmL (leasts [1]) = 1
  decide
theorem pw_mk (S : Sto) : kMk2 "Moduli" 3 0 (gDef []) F_Moduli___init__ [.int 1, .tup [.int 1], .tup (PW.map iN)] [] S = .ok (mO 1 [1] PW) S := by
  have e := make_ok p_init vm_pw (n := 3) (m := 0) (g := gDef []) (ds := [.int 1, .tup [.int 1], .tup (PW.map iN)]) (es := []) (S := S) rfl rfl rfl
  obtain ⟨a, b⟩ := told1
  have a : lcmL (leasts [1]) = 1 := a
  rw [a, b] at e
  exact e
theorem pw_cnt : cnt (hasB 1 [1] PW) 3 = 0 + 1 ∧ cnt (hasB 1 [1] PW) (3 - 1) = 0 := by decide +kernel
theorem pw_least (S : Sto) : F_Moduli_least [mO 1 [1] PW] S = .ok (.int 3) S := by
  obtain ⟨c1, c2⟩ := pw_cnt
  obtain ⟨x, e, a, b⟩ := (p_least 1 [1] PW S vm_pw).2 (by simp) ⟨3, by omega⟩
  rw [nth_uniq c1 c2 a b] at e
  exact e
theorem pw_item (S : Sto) : F_Moduli___getitem__ [mO 1 [1] PW, .int 0] S = .ok (.int 3) S := by
  obtain ⟨c1, c2⟩ := pw_cnt
  obtain ⟨x, e, a, b⟩ := p_item 1 [1] PW 0 S vm_pw (by simp) ⟨3, by omega⟩
  rw [nth_uniq c1 c2 a b] at e
  exact e
theorem pw_find : (List.range 72).find? (fun e => hasB 1 [1] PW (2 ^ e)) = some 70 := by decide +kernel
theorem pw_bits (S : Sto) : F_Moduli_bits [mO 1 [1] PW] S = .ok (.int 70) S := by
  obtain ⟨v, r, a, b, e⟩ := p_bits 1 [1] PW S vm_pw
  have v0 : v = 0 := by
    cases v with
    | zero => rfl
    | succ v =>
      rw [Nat.pow_succ, Nat.mul_assoc, Nat.mul_left_comm] at a
      omega
  subst v0
  have l : PW.length + 1 + 0 + 1 = 72 := by simp [PW]
  rw [l, pw_find] at e
  exact e
theorem pw_top : topN PW = 2 ^ 69 := by decide +kernel
theorem pw_allf (S : Sto) : F_Moduli_all_from [mO 1 [1] PW] S = .ok (iN (2 ^ 69 + 1)) S := by
  rw [p_allf, if_pos rfl, pw_top]
theorem pw_has : hasB 1 [1] PW (2 ^ 69) = false := by decide +kernel
theorem pw_cont (S : Sto) : F_Moduli___contains__ [mO 1 [1] PW, iN (2 ^ 69)] S = .ok (.bl false) S := by
  rw [(p_cont 1 [1] PW (iN (2 ^ 69)) S (by omega) rfl).1 (2 ^ 69) (Nat.two_pow_pos 69) rfl, pw_has]
def pwN (m : Nat) : List Nat := (List.range (m + 1)).map fun e => 2 ^ e
theorem pwN_last (m : Nat) : atI ((pwN m).map iN) (-1) = some (iN (2 ^ m)) := atI_last (by unfold pwN; rw [List.range_succ]; simp)
theorem pwN_succ (m : Nat) : (pwN m).map iN ++ [iN (2 ^ (m + 1))] = (pwN (m + 1)).map iN := by
  unfold pwN
  rw [List.range_succ (n := m + 1), List.map_append, List.map_append]
  rfl
theorem pwN_len (m : Nat) : ((pwN m).map iN).length = m + 1 := by simp [pwN]
theorem pw_loop (S : Sto) : ∃ y, loopD (gName' 1) (SS.B__law_powers_right_L1 F_Moduli___contains__ F_Moduli___getitem__ F_Moduli___init__ F_Moduli_all_from F_Moduli_bits F_Moduli_least) ((List.range 69).map iN) [some (.ref S.length), none, none] (S ++ [.lst [.int 1]]) = .ok (.nx [some (.ref S.length), y, none]) (S ++ [.lst (PW.map iN)]) := by
  obtain ⟨r', S', lo, ⟨y, rfl⟩, rfl⟩ := loopD_range (b := gName' 1) (body := SS.B__law_powers_right_L1 F_Moduli___contains__ F_Moduli___getitem__ F_Moduli___init__ F_Moduli_all_from F_Moduli_bits F_Moduli_least)
    (fun m r S' => (∃ y, r = [some (.ref S.length), y, none]) ∧ S' = S ++ [.lst ((pwN m).map iN)]) 69 [some (.ref S.length), none, none] (S ++ [.lst [.int 1]]) ⟨⟨none, rfl⟩, rfl⟩ (by
    intro m r S' hm ⟨⟨y, hr⟩, hS⟩
    subst hr hS
    have mu : mulD (iN (2 ^ m)) (.int 2) = some (iN (2 ^ (m + 1))) := by rw [mulD_small (.inr small2), Nat.pow_succ]; rfl
    have la := pwN_last m
    have ap := mut_app (d := iN (2 ^ (m + 1))) (app_get S (.lst ((pwN m).map iN))) (by rw [pwN_len]; omega)
    rw [app_set, pwN_succ] at ap
    have gp := app_get S (.lst ((pwN m).map iN))
    refine ⟨_, _, ?_, ⟨some (iN m), rfl⟩, rfl⟩
    generalize (pwN m).map iN = X at *
    generalize (pwN (m + 1)).map iN = Y at *
    simp_arith only [SS.B__law_powers_right_L1, gp, ob_list, ixD_lst, la, mu, ap])
  exact ⟨y, lo⟩
theorem powers_right (S : Sto) : F__law_powers_right [] S = .ok (.bl true) S := by
  obtain ⟨y, lo⟩ := pw_loop S
  have gp := app_get S (.lst (PW.map iN))
  have la : atI (PW.map iN) (-1) = some (iN (2 ^ 69)) := pwN_last 69
  have rg : rangeD1 [.int 69] = some ((List.range 69).map iN) := range1 (n := 69) (by omega)
  have f1 : few [D.int 1] = some [D.int 1] := few_ok (by simp)
  have f4 : ∀ a b c e : D, few [a, b, c, e] = some [a, b, c, e] := fun _ _ _ _ => few_ok (by simp)
  have tu : tupleD [.lst (PW.map iN)] = some (.tup (PW.map iN)) := rfl
  obtain ⟨T, hT⟩ : ∃ T, T = S ++ [Ob.lst (PW.map iN)] := ⟨_, rfl⟩
  have e1 := pw_mk T
  have e2 := pw_least T
  have e3 := pw_bits T
  have e4 := pw_allf T
  have e5 := pw_item T
  have e6 := pw_cont T
  obtain ⟨tx, rp⟩ : ∃ tx, reprD [.lst [.int 3, .int 70, iN (2 ^ 69 + 1), .int 3]] = some (.str tx) := by
    refine ⟨_, reprb_ok (rp_seq (k := 0) (n := 62) (m := 4) (fun x hx => ?_) (by simp)).1 (by omega) (by omega)⟩
    simp only [List.mem_cons, List.not_mem_nil, or_false] at hx
    rcases hx with rfl | rfl | rfl | rfl <;> exact rp_int 0 (by decide)
  have sc : ((2 ^ 69 : Nat) : Int) + 1 = ((2 ^ 69 + 1 : Nat) : Int) := by omega
  rw [← hT] at gp lo
  generalize (2 ^ 69 : Nat) = b69 at *
  generalize PW.map iN = X at *
  have b0 : bR true (.ok (.bl false) T) = .ok (.bl true) T := rfl
  show doneR false S (SS.B__law_powers_right F_Moduli___contains__ F_Moduli___getitem__ F_Moduli___init__ F_Moduli_all_from F_Moduli_bits F_Moduli_least [none, none, none] S) = _
  simp_arith only [SS.B__law_powers_right, f1, rg, lo, gp, tu, ev_make, ev_kMk1, e1, ev_attr, kAt_mO, e2, e3, e4, ev_binM, ev_kBM, hIx_mO, e5, f4, rp, ixD_lst, la, sc, str_ne, hIn_mO, e6, b0]
  rw [hT]
  exact cut_app S [Ob.lst X] (.bl true) rfl
/-! ## the end -/
theorem clo6 : Clo 6 [1, 2, 3, 6] := ⟨by omega, by decide, by decide, fun x hx e h1 h2 => by
  have := Nat.le_of_dvd (by omega) h2
  have e0 : e ≠ 0 := fun z => by subst z; simp at h2
  have : e = 1 ∨ e = 2 ∨ e = 3 ∨ e = 4 ∨ e = 5 ∨ e = 6 := by omega
  rcases this with rfl | rfl | rfl | rfl | rfl | rfl <;> first | (simp; done) | (exfalso; revert h2; decide)⟩
theorem clo0 : Clo 6 [] := ⟨by omega, by simp, by simp, by simp⟩
theorem vm1 : Vm 1 [1] [] := ⟨clo1, by omega, by simp, by simp, by simp, by simp⟩
theorem vm6 : Vm 6 [1, 2, 3, 6] [] := ⟨clo6, by omega, by simp, by simp, by simp, by simp⟩
theorem vm0 : Vm 6 [] [] := ⟨clo0, by omega, by simp, by simp, by simp, by simp⟩
theorem mk_every (S : Sto) : kMk2 "Moduli" 0 0 (gDef [.int 1, .tup [.int 1], .tup []]) F_Moduli___init__ [] [] S = .ok (mO 1 [1] []) S := by
  have e := make_ok p_init vm1 (n := 0) (m := 0) (g := gDef [.int 1, .tup [.int 1], .tup []]) (ds := []) (es := []) (S := S) rfl rfl rfl
  obtain ⟨a, b⟩ := told1
  have a : lcmL (leasts [1]) = 1 := a
  rw [a, b] at e
  exact e
theorem mk_six (S : Sto) : kMk2 "Moduli" 2 0 (gDef [.tup []]) F_Moduli___init__ [.int 6, .tup [.int 1, .int 2, .int 3, .int 6]] [] S = .ok (mO 1 [1] []) S := by
  have e := make_ok p_init vm6 (n := 2) (m := 0) (g := gDef [.tup []]) (ds := [.int 6, .tup [.int 1, .int 2, .int 3, .int 6]]) (es := []) (S := S) rfl rfl rfl
  have b : late [1, 2, 3, 6] = [1] := clo6.one (by simp)
  have a : lcmL (leasts [1, 2, 3, 6]) = 1 := by decide
  rw [a, b] at e
  exact e
theorem mk_none (S : Sto) : kMk2 "Moduli" 2 0 (gDef [.tup []]) F_Moduli___init__ [.int 6, .tup []] [] S = .ok (mO 1 [] []) S := by
  have e := make_ok p_init vm0 (n := 2) (m := 0) (g := gDef [.tup []]) (ds := [.int 6, .tup []]) (es := []) (S := S) rfl rfl rfl
  have b : late [] = [] := clo0.late_nil.mpr rfl
  have a : lcmL (leasts []) = 1 := by decide
  rw [a, b] at e
  exact e
theorem law_true (ns : List Int) (h : ns.length ≤ 63) : ∃ S', F_law [.lst (ns.map D.int)] [] = .ok (.bl true) S' := by
  obtain ⟨ms, e1⟩ := o_spring ns []
  have t0 := gtp_spr ms []
  rw [List.nil_append] at e1 t0
  rw [show ([] : Sto).length = 0 from rfl] at e1 t0
  obtain ⟨P, G, O, S1, d, e2, c1⟩ := o_drawn [sprOb ms 0 0 0] 0 0 t0 (by omega)
  obtain ⟨_, p1, _⟩ := wholes_ok P d.w
  have e3 := o_least P G O S1 d.v (by omega)
  obtain ⟨P', G', S2, v', p', l', e4, c2⟩ := o_wrapped S1 0 _ P G O c1.tp (by omega) d
  obtain ⟨S3, y5, y6, y7, y8, y9, c3, st1⟩ := turn d d.v rfl c2.tp (by omega) (x0 := some (.lst (ns.map D.int))) (x4 := none) (x5 := none) (x6 := none) (x7 := none) (x8 := none) (x9 := none) (x10 := none) (x11 := none)
  obtain ⟨S4, z5, z6, z7, z8, z9, c4, st2⟩ := turn d v' l' c3.tp (by omega) (x0 := some (.lst (ns.map D.int))) (x4 := some (formD P G O)) (x5 := y5) (x6 := y6) (x7 := y7) (x8 := y8) (x9 := y9) (x10 := none) (x11 := none)
  have lo1 : loopD (gName' 4) B_law_L4 [formD P G O, formD P' G' O] [some (.lst (ns.map D.int)), some (.ref 0), some (formD P G O), some (formD (W G) (late G) O), none, none, none, none, none, none, none, none, none] S2 = .ok (.nx [some (.lst (ns.map D.int)), some (.ref 0), some (formD P G O), some (formD (W G) (late G) O), some (formD P' G' O), z5, z6, z7, z8, z9, none, none, none]) S4 := by
    rw [loopD_step st1, loopD_step st2]
    rfl
  obtain ⟨gs, g1, g2, e5⟩ := o_other P G O (.ref 0) S4 d
  obtain ⟨w4, w10, lo2⟩ := other_loop d gs (some (formD P' G' O)) none g1 (S := S4) (x0 := some (.lst (ns.map D.int))) (x1 := some (.ref 0)) (x3 := some (formD (W G) (late G) O)) (x5 := z5) (x6 := z6) (x7 := z7) (x8 := z8) (x9 := z9) (x11 := none) (x12 := none)
  have f2 : ∀ a b : D, few [a, b] = some [a, b] := fun _ _ => few_ok (by simp)
  have li : ∀ L : List D, listD [.tup L] = some (.lst L) := fun _ => rfl
  have m1 := mk_every S4
  have m2 := mk_six S4
  have m3 := mk_none S4
  have pr := powers_right S4
  have q1 := p_eq.1 1 1 [1] [] [1] [] S4
  rw [decide_eq_true (⟨rfl, rfl, rfl⟩ : 1 = 1 ∧ [1] = [1] ∧ ([] : List Nat) = [])] at q1
  have q2 := p_eq.2.1 1 [1] [] [.int 1, .tup [.int 1], .tup []] S4
  have q3 := p_eq.2.2 1 [1] [] 1 S4
  have fo1 : F_Moduli_form [mO 1 [1] []] S4 = .ok (.tup [.int 1, .tup [.int 1], .tup []]) S4 := p_form 1 [1] [] S4
  have fo2 : F_Moduli_form [mO 1 [] []] S4 = .ok (.tup [.int 1, .tup [], .tup []]) S4 := p_form 1 [] [] S4
  obtain ⟨t1, r1⟩ : ∃ t, reprD [.tup [.int 1, .tup [.int 1], .tup []]] = some (.str t) := ⟨_, reprb_ok (rp_form (P := 1) (G := [1]) (O := []) (by omega) (by simp) (by simp) (by simp) (by simp)) (by omega) (by omega)⟩
  obtain ⟨t2, r2⟩ : ∃ t, reprD [.tup [.int 1, .tup [], .tup []]] = some (.str t) := ⟨_, reprb_ok (rp_form (P := 1) (G := []) (O := []) (by omega) (by simp) (by simp) (by simp) (by simp)) (by omega) (by omega)⟩
  have f1 : ∀ a : D, few [a] = some [a] := fun _ => few_ok (by simp)
  have f3 : ∀ a b c : D, few [a, b, c] = some [a, b, c] := fun _ _ _ => few_ok (by simp)
  have f4 : ∀ a b c e : D, few [a, b, c, e] = some [a, b, c, e] := fun _ _ _ _ => few_ok (by simp)
  refine ⟨[], ?_⟩
  show doneR false [] (K50.B_law [some (.lst (ns.map D.int)), none, none, none, none, none, none, none, none, none, none, none, none] []) = _
  have ev : K50.B_law [some (.lst (ns.map D.int)), none, none, none, none, none, none, none, none, none, none, none, none] [] = .ok (.rt (.bl true)) S4 := by
    unfold formD at *
    simp_arith only [K50.B_law, e1, e2, ixD_tup, atI_0, atI_1, atI_2, li, e3, e4, f2, lo1, e5, lo2, ev_make, ev_kMk1, m1, pr, ev_attr, kAt_mO, fo1, fo2, few0, f1, f3, f4, r1, r2, str_ne, str_eqq, ev_binM, ev_kBM, hCmp_tup, hCmp_int, hCmp_mO, q2, q3, m2, m3, q1]
  rw [ev]
  exact cut_app [] S4 (.bl true) rfl
end SS.Q50
theorem K50.law_true (ns : List Int) (h : ns.length ≤ 63) : ∃ S', K50.F_law [.lst (ns.map FL.D.int)] [] = .ok (.bl true) S' := SS.Q50.law_true ns h
end
set_option Elab.async false
set_option linter.all false
set_option maxRecDepth 100000
set_option autoImplicit false
set_option maxHeartbeats 2000000
set_option maxHeartbeats 0
open PySem PySem.W PySem.Calls PyProof.Rows
namespace K50
abbrev Ro : OpenRow := OpenLaw.row PySem.Challenge.rw_samestamp_k50_moduli_told
abbrev Qo : Program := view Ro.prog [63]
abbrev Do : DefRec := HandSHeadRun.topDef Ro.prog 63
theorem e1 : opening Ro.prog = plainProg Ro.prog.main.scope.names := by kernel_rfl
theorem e2 : ∀ s, fenceModules? Ro.prog s = some s := fun s => by kernel_rfl
theorem e3 : defOf Qo Ro.name = some (Do, []) := by kernel_rfl
theorem e4 : Ro.prog.theDef Ro.name = some (Do.params, Do.body, Do.scope) := by kernel_rfl
theorem e5 : kwWritten? Do.params.kwonlyargs Do.params.kw_defaults = some [] := by kernel_rfl
theorem e6 : (!Ro.writes || Ro.records.isEmpty) = true := by rfl
theorem e7 : (chainsOk Qo && opensWell Ro.prog && (frees Ro.toRowW && Ro.within.isEmpty)) = true := by decide +kernel
theorem e8 : Ro.toRowW.promised := by w_witness2
theorem e9 : Ro.prog.bare := ⟨rfl, rfl, rfl, rfl, rfl, by decide +kernel⟩
theorem ec : WalkO Qo loose (XL Qo []) hk.says Ro.toRowW Do [] fun f vs => PySem.call f vs := by
  refine FL.walk_D (l := PySem.Challenge.rw_samestamp_k50_moduli_told) (n := 63) (k := 73) (x := "_law_script") rfl (by decide) (by kernel_rfl) ⟨rfl, by decide, by decide⟩ ?F
  intro w mg fa h Y G hmg0
  obtain ⟨K, KX, c, _, g1, g2⟩ := Y
  have hmg : mg ("law" : PySem.Str) = some (.ref fa) := by
    have e : (HandSHeadRun.topDef (OpenLaw.row PySem.Challenge.rw_samestamp_k50_moduli_told).prog 63).name = ("law" : PySem.Str) := by kernel_rfl
    rw [← e]
    exact hmg0
  have T := top_of KX G c g1 g2
  obtain ⟨fd, hf, hm, _⟩ := fn_law (P := (PySem.Challenge.rw_samestamp_k50_moduli_told).prog) (w := w) (base := h) T
  have ea := hmg.symm.trans hm
  cases ea
  refine ⟨K, fd, F_law, KX, fun s u => hf.bindsA (ps := ["_law_script"]) (fun _ _ _ _ _ _ us hl => match us, hl with | [_], _ => rfl) s [u] rfl, law_true, fun base _ _ => ?_⟩
  obtain ⟨fd', hf', hm', hF⟩ := fn_law (P := (PySem.Challenge.rw_samestamp_k50_moduli_told).prog) (w := w) (base := base) T
  have efd : fd' = fd := by
    obtain ⟨_, _, _, _, _, _, _, _, _, _, _, l1, _⟩ := hf.ex
    obtain ⟨_, _, _, _, _, _, _, _, _, _, _, l2, _⟩ := hf'.ex
    rw [l1] at l2
    injection l2 with l2
    injection l2 with _ _ l2 _
    injection l2 with l2
    exact l2.symm
  subst efd
  exact hF
end K50
theorem PySem.Challenge.cw_samestamp_k50_moduli_told_holds : PySem.Challenge.rw_samestamp_k50_moduli_told.Holds := by
  w_on; o_law
  exact HandSHeadRun.head_any (r := K50.Ro) (q := K50.Qo) (H := K50.hk) (ob := K50.ob) (M := 6000) (loose := K50.loose) (d := K50.Do) (kwd := []) K50.ob_eq K50.e1 K50.e2 K50.run K50.e3 K50.e4 K50.e5 K50.e6 (by assumption) K50.e7 K50.e9 K50.e8 K50.ec
