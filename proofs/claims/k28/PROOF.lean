import PyProof.Rows.All
import Wide.All
import OpenK.AllK
import Wide.FinOn
import HandS.ForMost
import HandS.Flow
import HandS.TupAny
import HandS.TupMul
import HandS.Deep
import HandS.Strs
import HandS.Zip
import HandS.Star
import HandS.IsInst
import KE.GoesMore
import HandS.Codes
import HandS.Defaults
import HandS.SortInts
import KE.KSortTup
import KE.KSortTupAny
import HandS.Head2
import HandS.HeadEnd
import HandS.HeadHook4
import HandS.Style
import KE.KStateDown
import Lean
import PySem.Challenge.RW_samestamp_k28_whole_every_run
section
set_option Elab.async false
set_option linter.all false
set_option maxRecDepth 100000
set_option autoImplicit false
set_option maxHeartbeats 2000000
/-! Tuples known to their object: so it is known that they bear no dict of their own. -/
namespace FL
open PySem PySem.Spec PyProof.Rows L2
def tupO (us : List Value) : Obj := { cls := .type "tuple", data := .seq us.toArray }
/-- a new tuple -/
def rNewT (xs : List V) (H : Hp) (Q : VK) : Prop := ∀ p us, H p = none → Q (.ref p) (upd H p (.frz (tupO us) (.tup xs)))
section
variable {X : Cx} {pins : List (Addr × Obj)} {s : Shared} {σ : L2.St} {H : Hp} {Q : VK}
theorem newT {us : List Value} {xs : List V} (I : Inv X pins σ H s) (r : Vals xs us) (z : xs.length ≤ sizeLine) (q : rNewT xs H Q) : EP X pins σ Q (.ref s.heap.objs.size) { s with heap := s.heap.push (tupO us) } := by
  have hf : H s.heap.objs.size = none := I.hok.fresh (Nat.le_refl _)
  refine ⟨.ref s.heap.objs.size, _, I.laid (t' := s.toks) (o := .frz (tupO us) (.tup xs)) (fun b u e => Heap.get?_push_of_some _ e) (Nat.le_refl _) ?_, rfl, q _ us hf⟩
  exact ⟨Heap.get?_push_size _ rfl, z, us, r, ⟨_, Heap.get?_push_size _ rfl, rfl, _, rfl⟩⟩
def tTupF (t : TA) : TE := fun s H Q => t s H fun xs H1 => xs.length ≤ sizeLine ∧ rNewT xs H1 Q
theorem pe_tupF {es : List Expr} {t : TA} {x1} {pos : Pos} (h : PA X es t) : PE X (.Tuple es x1 pos) (tTupF t) := by
  refine ⟨fun pins s σ H Q I hq => ?_⟩
  refine wpAny_Tuple_spliced (thn (h.run pos pins s σ H _ I hq) fun us s1 ⟨xs, H1, I1, r, z, q⟩ => ⟨by rw [← r.length]; exact z, ?_⟩)
  exact newT I1 r z q
/-- t + u -/
def rCatF (K : PySem.W.Frag) : R2 := fun x y H Q => ∃ a b xs ys, x = .ref a ∧ y = .ref b ∧ SqT K H a xs ∧ SqT K H b ys ∧ xs.length + ys.length ≤ sizeLine ∧
  (xs = [] → Q (.ref b) H) ∧ (xs ≠ [] → ys = [] → Q (.ref a) H) ∧ (xs ≠ [] → ys ≠ [] → rNewT (xs ++ ys) H Q)
theorem op_catF : OpR X (binaryOp .Add) (rCatF X.K) := by
  intro pins s σ H x y v u Q I rx ry ⟨a, b, xs, ys, ex, ey, ha, hb, hz, q0, q1, q2⟩
  subst ex ey
  cases rx
  cases ry
  obtain ⟨its, r1, p1, _⟩ := I.tuple ha
  obtain ⟨its2, r2, p2, _⟩ := I.tuple hb
  by_cases hx : xs = []
  · subst hx
    cases r1
    exact cat_tup0 p1 p2 ⟨.ref b, H, I, rfl, q0 rfl⟩
  · refine HT.cat_tup p1 p2 (fun z => hx (r1.nil_iff.mp z)) (fun z => ⟨.ref a, H, I, rfl, q1 hx (r2.nil_iff.mp z)⟩) (fun z => ?_) (by rw [← r1.length, ← r2.length]; exact hz)
    exact newT I (r1.append r2) (by rw [List.length_append]; exact hz) (q2 hx fun w => z (r2.nil_iff.mpr w))
/-- t[a:b] -/
def rSlF (K : PySem.W.Frag) : V → Option Int → Option Int → Hp → VK → Prop := fun x lo hi H Q => ∃ a xs, x = .ref a ∧ SqT K H a xs ∧
  (cutV xs lo hi = xs → Q (.ref a) H) ∧ rNewT (cutV xs lo hi) H Q
theorem sl_tupF : SlR X (rSlF X.K) := by
  intro pins s σ H x v vl vu lo hi sl Q I rx hs pl pu ⟨a, xs, ex, hx, q1, q2⟩
  subst ex
  cases rx
  obtain ⟨its, r, ht, hz⟩ := I.tuple hx
  have hlen : its.toArray.size = xs.length := by rw [List.size_toArray]; exact r.length.symm
  refine ⟨"tuple", _, PyProof.Rows.slot_tuple_getitem.lookup, ht.typeIs, ?_⟩
  by_cases hw : HT.sIx xs.length 0 lo = 0 ∧ HT.sIx xs.length xs.length hi = xs.length
  · refine getItem_tuple_whole ht hs pl pu (by rw [hlen]; exact hw) ⟨.ref a, H, I, rfl, q1 ?_⟩
    unfold cutV
    rw [hw.1, hw.2, List.drop_zero, Nat.sub_zero, List.take_length]
  · refine HT.getItem_tuple_cut ht hs pl pu (by rw [hlen]; exact hw) ?_ (by rw [hlen]; exact hz)
    rw [hlen]
    exact newT I ((r.drop (HT.sIx xs.length 0 lo)).take (HT.sIx xs.length xs.length hi - HT.sIx xs.length 0 lo)) (Nat.le_trans (cutV_length xs lo hi) hz) q2
/-- tuple(x) -/
def rTupleF (K : PySem.W.Frag) : List V → Hp → VK → Prop := fun xs H Q => ∃ p ys, xs = [.ref p] ∧ ((SqL K H p ys ∧ rNewT ys H Q) ∨ (SqT K H p ys ∧ Q (.ref p) H))
theorem call_tupleF : CallR X (.type "tuple") (rTupleF X.K) := by
  intro pins s σ H xs us Q I r ⟨p, ys, e, h⟩
  subst e
  obtain ⟨u, rfl, rx⟩ := vals1 r
  cases rx
  rcases h with ⟨hq, q⟩ | ⟨hq, q⟩
  · obtain ⟨its, r', pl, hz⟩ := I.list hq
    have hlen := r'.length
    refine call_tuple_list pl.isList (fun h' kp => ?_) (by simp only [List.size_toArray] <;> omega)
    have I1 : Inv X pins σ H { s with heap := h' } := I.kept (t' := s.toks) kp
    exact newT I1 r' hz q
  · obtain ⟨its, r', pl, hz⟩ := I.tuple hq
    exact call_tuple_same pl ⟨.ref p, H, I, rfl, q⟩
end

/-! ## tuple * int -/
theorem tuple_mul_one (l : Addr) (items : Array Value) (n : Nat) (dd : Option Addr) (sl : Array (Option Value)) (u : Tok) :
    Meets (Builtin.«tuple.__mul__» ⟨[.ref l, .int 1 u], []⟩) (fun _ R s => s.heap.get? l = some { cls := .type "tuple", dict := dd, data := .seq items n, slots := sl } ∧ R (.ok (.ret (Value.ref l))) s) :=
  .of_wp fun prog w A R s h => by
    obtain ⟨hp, g, d, tk, os⟩ := s
    obtain ⟨hl, h⟩ := h
    have f1 := AutoSeq1.idx_int
    have c1 : (items.isEmpty || (1 : Int) == 1) = true := by simp
    wp_walk using wpAny_loadPart' hl
    repeat (first
      | (refine wpAny_ite_false (decide_eq_false (by decide)) ?_; wp_walk using wpAny_loadPart' hl)
      | (refine wpAny_ite_true (decide_eq_true c1) ?_; wp_walk using wpAny_loadPart' hl))
    exact ⟨_, rfl, h⟩
theorem tuple_mul_none (l : Addr) (items : Array Value) (n : Nat) (dd : Option Addr) (sl : Array (Option Value)) (x : Int) (u : Tok) (c0 : (decide (x < -(2 ^ 63)) || decide (x ≥ 2 ^ 63)) = false) (c1 : (items.isEmpty || x == 1) = false) (c2 : (decide (x ≤ 0) || items.isEmpty) = true) :
    Meets (Builtin.«tuple.__mul__» ⟨[.ref l, .int x u], []⟩) (fun _ R s => s.heap.get? l = some { cls := .type "tuple", dict := dd, data := .seq items n, slots := sl } ∧
      R (.ok (.ret (Value.ref s.heap.objs.size))) { s with heap := s.heap.push { cls := Value.type "tuple", data := Data.seq #[] }, toks := s.toks }) :=
  .of_wp fun prog w A R s h => by
    obtain ⟨hp, g, d, tk, os⟩ := s
    obtain ⟨hl, h⟩ := h
    have f1 := AutoSeq1.idx_int
    wp_walk using wpAny_loadPart' hl
    repeat (first
      | (refine wpAny_ite_false (decide_eq_false (by rw [c0]; exact Bool.false_ne_true)) ?_; wp_walk using wpAny_loadPart' hl)
      | (refine wpAny_ite_false (decide_eq_false (by rw [c1]; exact Bool.false_ne_true)) ?_; wp_walk using wpAny_loadPart' hl)
      | (refine wpAny_ite_true (decide_eq_true (by rw [c2])) ?_; wp_walk using wpAny_loadPart' hl))
    exact ⟨_, rfl, h⟩
section
variable {X : Cx}
def rRepF (K : PySem.W.Frag) : R2 := fun x y H Q => ∃ l k xs, x = .ref l ∧ y = .int k ∧ SqT K H l xs ∧ xs ≠ [] ∧ -1000 ≤ k ∧ k ≤ 1000 ∧ xs.length ≤ 1000 ∧ (k = 1 → Q (.ref l) H) ∧ rNewT (List.replicate k.toNat xs).flatten H Q
theorem op_repF : OpR X (binaryOp .Mult) (rRepF X.K) := by
  intro pins s σ H x y v u Q I rx ry ⟨l, k, xs, ex, ey, hT, hne, h1, h2, hz, q1, q2⟩
  subst ex ey
  cases rx
  obtain ⟨t, rfl⟩ := ry
  obtain ⟨its, r, ⟨⟨cls, dd, data, sl⟩, ho, hc, n, hd⟩, hs⟩ := I.tuple hT
  simp only at hc hd
  subst hc hd
  have hle : its.length = xs.length := r.length.symm
  have hi : its.toArray.isEmpty = false := by
    cases its with
    | nil => exact absurd (List.eq_nil_of_length_eq_zero (by simpa using r.length)) hne
    | cons a b => rfl
  have hsz0 : its.toArray.size = xs.length := by rw [List.size_toArray, hle]
  have a0 : k.toNat * xs.length ≤ 1000 * 1000 := Nat.mul_le_mul (by omega) hz
  have flen : (List.replicate k.toNat its).flatten.length ≤ sizeLine := by
    rw [PyProof.Rows.lm_len_rep_flat, hle, sizeLine_eq]
    omega
  have flen' : (List.replicate k.toNat xs).flatten.length ≤ sizeLine := by
    rw [PyProof.Rows.lm_len_rep_flat, sizeLine_eq]
    omega
  have c0 : (decide (k < -(2 ^ 63)) || decide (k ≥ 2 ^ 63)) = false := by
    rw [decide_eq_false (by omega), decide_eq_false (by omega)] <;> rfl
  refine wpAny_binaryOp_repeat_ref (T := "tuple") (U := "int") (by decide) ⟨_, ho, rfl⟩ (fun s' => typeIs_int s' k t) noFill_tuple_mul F.fills_int_mul F.slot_int_rmul repeat_tuple F.slot_int_index.lookup
    (call_meets F.slot_int_rmul (typeIs_int s k t) F.entry_int_rmul (F.args_int_rmul_2 _ _) (int_rmul_tuple k t l its.toArray n dd sl) ⟨ho, rfl, ⟨_, ho, rfl⟩, ?_⟩)
  by_cases hk1 : k = 1
  · subst hk1
    exact call_meets F.slot_tuple_mul ⟨_, ho, rfl⟩ F.entry_tuple_mul (F.args_tuple_mul_2 _ _) (tuple_mul_one l its.toArray n dd sl t) ⟨ho, .ref l, H, I, rfl, q1 rfl⟩
  · have c1 : (its.toArray.isEmpty || k == 1) = false := by
      rw [hi, Bool.false_or]
      exact beq_eq_false_iff_ne.mpr hk1
    by_cases hk0 : k ≤ 0
    · have c2 : (decide (k ≤ 0) || its.toArray.isEmpty) = true := by
        rw [decide_eq_true hk0, Bool.true_or]
      refine call_meets F.slot_tuple_mul ⟨_, ho, rfl⟩ F.entry_tuple_mul (F.args_tuple_mul_2 _ _) (tuple_mul_none l its.toArray n dd sl k t c0 c1 c2) ⟨ho, ?_⟩
      have e0 : k.toNat = 0 := by omega
      rw [e0] at q2
      exact newT I .nil (Nat.zero_le _) q2
    · have c2 : (decide (k ≤ 0) || its.toArray.isEmpty) = false := by
        rw [hi, Bool.or_false]
        exact decide_eq_false hk0
      have hm : ((its.toArray.size : Nat) : Int) * k ≤ 1000000 := by
        rw [hsz0]
        have a1 : ((xs.length : Nat) : Int) * k ≤ 1000 * k := Int.mul_le_mul_of_nonneg_right (by omega) (by omega)
        omega
      have c4 : Builtin.Tuple.tupleTooMany (((its.toArray.size : Nat) : Int) * k) = false := by
        unfold Builtin.Tuple.tupleTooMany
        rw [sizeLine_eq]
        exact decide_eq_false (by omega)
      refine call_meets F.slot_tuple_mul ⟨_, ho, rfl⟩ F.entry_tuple_mul (F.args_tuple_mul_2 _ _) (tuple_mulW l its.toArray n dd sl k t c0 c1 c2 (by omega) c4 (by rw [size_rep, List.size_toArray]; exact flen)) ⟨ho, ?_⟩
      rw [size_rep]
      exact newT I (r.rep k.toNat) flen' q2
end
end FL
end

section
set_option Elab.async false
set_option linter.all false
set_option maxRecDepth 100000
set_option autoImplicit false
namespace FL
open PySem PySem.Spec PyProof.Rows L2

/-! ## data, store, outcome -/
inductive D where
  | non
  | bl (b : Bool)
  | int (i : Int)
  | str (x : Str)
  | lst (xs : List D)
  | tup (xs : List D)
  | dct (kvs : List (Key × D))
  | ref (n : Nat)
instance : Inhabited D := ⟨.non⟩
inductive Ob where
  | lst (xs : List D)
  | dct (kvs : List (Key × D))
  | ins (C : Str) (fs : List (Str × D))
  | dead
abbrev Sto := List Ob
structure Exn where
  cls : Str
  ks : List Str
  ds : List D
inductive R (α : Type) where
  | ok (a : α) (S : Sto)
  | ex (x : Exn) (S : Sto)
  | no
abbrev M (α : Type) := Sto → R α
abbrev Env := List (Option D)
inductive Fl where
  | nx (r : Env)
  | rt (d : D)
  | bk (r : Env)
  | ct (r : Env)
def ret {α : Type} (a : α) : M α := fun S => .ok a S
def bnd {α β : Type} (m : M α) (k : α → M β) : M β := fun S => match m S with
  | .ok a S' => k a S'
  | .ex x S' => .ex x S'
  | .no => .no
/-- a partial plain value -/
def opt {α : Type} : Option α → M α
  | some a => fun S => .ok a S
  | none => fun _ => .no
def R.post {α : Type} (r : R α) (Q : α → Sto → Prop) (E : Exn → Sto → Prop) : Prop := match r with
  | .ok a S => Q a S
  | .ex x S => E x S
  | .no => False
theorem post_bnd {α β : Type} {m : M α} {k : α → M β} {S : Sto} {Q : β → Sto → Prop} {E : Exn → Sto → Prop} :
    (bnd m k S).post Q E = (m S).post (fun a S' => (k a S').post Q E) E := by
  unfold bnd
  cases m S <;> rfl
theorem post_ret {α : Type} {a : α} {S : Sto} {Q : α → Sto → Prop} {E : Exn → Sto → Prop} : (ret a S).post Q E = Q a S := rfl
theorem post_opt {α : Type} {o : Option α} {S : Sto} {Q : α → Sto → Prop} {E : Exn → Sto → Prop} : (opt o S).post Q E = ∃ a, o = some a ∧ Q a S := by
  cases o with
  | none => simp [opt, R.post]
  | some a => simp [opt, R.post]
theorem R.post.mono {α : Type} {r : R α} {Q Q' : α → Sto → Prop} {E E' : Exn → Sto → Prop} (h : r.post Q E) (hQ : ∀ a S, Q a S → Q' a S) (hE : ∀ x S, E x S → E' x S) : r.post Q' E' := by
  cases r with
  | ok a S => exact hQ _ _ h
  | ex x S => exact hE _ _ h
  | no => exact h

/-! ## what stands for what -/
/-- a tuple that stands, without a dict of its own -/
def TupAt (K : PySem.W.Frag) (G : Hp) (a : Addr) (vs : List V) : Prop := (∃ us, G a = some (.frz (tupO us) (.tup vs))) ∨
  ∃ (o : Obj) (its : Array Value) (n : Nat), K.lookup a = some o ∧ o.cls = .type "tuple" ∧ o.dict = none ∧ o.data = .seq its n ∧ its.size ≤ sizeLine ∧ Vals vs its.toList
theorem TupAt.sq {K : PySem.W.Frag} {G : Hp} {a : Addr} {vs : List V} (h : TupAt K G a vs) : SqT K G a vs := by
  rcases h with ⟨us, h⟩ | ⟨o, its, n, h1, h2, _, h3, h4, h5⟩
  · exact .inl (.inr ⟨_, h⟩)
  · exact .inr ⟨o, its, n, h1, h2, h3, h4, h5⟩
theorem TupAt.same {K : PySem.W.Frag} {G G' : Hp} {a : Addr} {vs : List V} (e : Same G G') (h : TupAt K G a vs) : TupAt K G' a vs := by
  rcases h with ⟨us, h⟩ | h
  · exact .inl ⟨us, e _ _ h⟩
  · exact .inr h
/-- a list that stands -/
def LAt (K : PySem.W.Frag) (G : Hp) (a : Addr) (vs : List V) : Prop := Rd G a (.lst vs) ∨
  ∃ (its : Array Value) (n : Nat), K.lookup a = some { cls := .type "list", data := .seq its n } ∧ its.size ≤ sizeLine ∧ Vals vs its.toList
theorem LAt.sq {K : PySem.W.Frag} {G : Hp} {a : Addr} {vs : List V} (h : LAt K G a vs) : SqL K G a vs := by
  rcases h with h | ⟨its, n, h1, h2, h3⟩
  · exact .inl h
  · exact .inr ⟨_, its, n, h1, rfl, rfl, rfl, h2, h3⟩
mutual
inductive Dn (K : PySem.W.Frag) (G : Hp) (A : List Addr) : V → D → Prop
  | non : Dn K G A .non .non
  | bl (b : Bool) : Dn K G A (.bl b) (.bl b)
  | int (i : Int) : Dn K G A (.int i) (.int i)
  | str (x : Str) : PyData.strOk x = true → Dn K G A (.str x) (.str x)
  | lst {a : Addr} {vs : List V} {ds : List D} : LAt K G a vs → DnAll K G A vs ds → Dn K G A (.ref a) (.lst ds)
  | tup {a : Addr} {vs : List V} {ds : List D} : TupAt K G a vs → DnAll K G A vs ds → Dn K G A (.ref a) (.tup ds)
  | dct {a : Addr} {kvs : List (Key × V)} {kds : List (Key × D)} : G a = some (.dK kvs) → DnKV K G A kvs kds → Dn K G A (.ref a) (.dct kds)
  | ref {n : Nat} {a : Addr} : A[n]? = some a → Dn K G A (.ref a) (.ref n)
inductive DnAll (K : PySem.W.Frag) (G : Hp) (A : List Addr) : List V → List D → Prop
  | nil : DnAll K G A [] []
  | cons {v : V} {vs : List V} {d : D} {ds : List D} : Dn K G A v d → DnAll K G A vs ds → DnAll K G A (v :: vs) (d :: ds)
inductive DnKV (K : PySem.W.Frag) (G : Hp) (A : List Addr) : List (Key × V) → List (Key × D) → Prop
  | nil : DnKV K G A [] []
  | cons {k : Key} {v : V} {vs : List (Key × V)} {d : D} {ds : List (Key × D)} : Dn K G A v d → DnKV K G A vs ds → DnKV K G A ((k, v) :: vs) ((k, d) :: ds)
end
def Pre (A A' : List Addr) : Prop := ∀ (n : Nat) (a : Addr), A[n]? = some a → A'[n]? = some a
theorem Pre.refl (A : List Addr) : Pre A A := fun _ _ h => h
theorem Pre.trans {A B C : List Addr} (h : Pre A B) (k : Pre B C) : Pre A C := fun n a e => k n a (h n a e)
theorem Pre.app (A B : List Addr) : Pre A (A ++ B) := fun n a e => by
  have hn : n < A.length := (List.getElem?_eq_some_iff.mp e).1
  rw [List.getElem?_append_left hn]
  exact e
theorem rd_same {H H' : Hp} {a : Addr} {u : HO} (e : Same H H') (h : Rd H a u) : Rd H' a u := by
  rcases h with h | ⟨o, h⟩
  · exact .inl (e _ _ h)
  · exact .inr ⟨o, e _ _ h⟩
theorem sql_same {K : PySem.W.Frag} {H H' : Hp} {a : Addr} {xs : List V} (e : Same H H') (h : LAt K H a xs) : LAt K H' a xs := by
  rcases h with h | h
  · exact .inl (rd_same e h)
  · exact .inr h
theorem seqT_same {K : PySem.W.Frag} {H H' : Hp} {a : Addr} {xs : List V} (e : Same H H') (h : SqT K H a xs) : SqT K H' a xs := by
  rcases h with (h | ⟨o, h⟩) | h
  · exact .inl (.inl (e _ _ h))
  · exact .inl (.inr ⟨o, e _ _ h⟩)
  · exact .inr h
section
variable {K : PySem.W.Frag} {G G' : Hp} {A A' : List Addr}
mutual
theorem Dn.mono (e : Same G G') (p : Pre A A') : ∀ (d : D) (v : V), Dn K G A v d → Dn K G' A' v d
  | .non, _, h => by cases h; exact .non
  | .bl b, _, h => by cases h; exact .bl b
  | .int i, _, h => by cases h; exact .int i
  | .str x, _, h => by cases h with | str _ o => exact .str x o
  | .lst ds, _, h => by cases h with | lst s t => exact .lst (sql_same e s) (DnAll.mono e p ds _ t)
  | .tup ds, _, h => by cases h with | tup s t => exact .tup (s.same e) (DnAll.mono e p ds _ t)
  | .dct kds, _, h => by cases h with | dct s t => exact .dct (e _ _ s) (DnKV.mono e p kds _ t)
  | .ref n, _, h => by cases h with | ref q => exact .ref (p _ _ q)
theorem DnAll.mono (e : Same G G') (p : Pre A A') : ∀ (ds : List D) (vs : List V), DnAll K G A vs ds → DnAll K G' A' vs ds
  | [], _, h => by cases h; exact .nil
  | d :: ds, _, h => by cases h with | cons a b => exact .cons (Dn.mono e p d _ a) (DnAll.mono e p ds _ b)
theorem DnKV.mono (e : Same G G') (p : Pre A A') : ∀ (ds : List (Key × D)) (vs : List (Key × V)), DnKV K G A vs ds → DnKV K G' A' vs ds
  | [], _, h => by cases h; exact .nil
  | (k, d) :: ds, _, h => by cases h with | cons a b => exact .cons (Dn.mono e p d _ a) (DnKV.mono e p ds _ b)
end
theorem DnAll.length {vs : List V} : ∀ {ds : List D}, DnAll K G A vs ds → vs.length = ds.length := by
  induction vs with
  | nil => intro ds h; cases h; rfl
  | cons v vs ih => intro ds h; cases h with | cons a b => simp [ih b]
theorem DnAll.get : ∀ {vs : List V} {ds : List D} {i : Nat} {d : D}, DnAll K G A vs ds → ds[i]? = some d → ∃ v, vs[i]? = some v ∧ Dn K G A v d
  | _, _, i, d, .nil, e => by simp at e
  | _, _, 0, d, .cons (v := v) a b, e => by simp at e; subst e; exact ⟨v, rfl, a⟩
  | _, _, i + 1, d, .cons a b, e => by
    obtain ⟨v, e1, r⟩ := DnAll.get (i := i) b (by simpa using e)
    exact ⟨v, by simpa using e1, r⟩
theorem DnAll.append : ∀ {vs ws : List V} {ds es : List D}, DnAll K G A vs ds → DnAll K G A ws es → DnAll K G A (vs ++ ws) (ds ++ es)
  | _, _, _, _, .nil, h => h
  | _, _, _, _, .cons a b, h => .cons a (DnAll.append b h)
theorem DnAll.take : ∀ {vs : List V} {ds : List D} (n : Nat), DnAll K G A vs ds → DnAll K G A (vs.take n) (ds.take n)
  | _, _, 0, _ => .nil
  | _, _, _ + 1, .nil => .nil
  | _, _, n + 1, .cons a b => .cons a (DnAll.take n b)
theorem DnAll.drop : ∀ {vs : List V} {ds : List D} (n : Nat), DnAll K G A vs ds → DnAll K G A (vs.drop n) (ds.drop n)
  | _, _, 0, h => h
  | _, _, _ + 1, .nil => .nil
  | _, _, n + 1, .cons a b => DnAll.drop n b
theorem DnAll.set {v : V} {d : D} (r : Dn K G A v d) : ∀ {vs : List V} {ds : List D} (i : Nat), DnAll K G A vs ds → DnAll K G A (vs.set i v) (ds.set i d)
  | _, _, _, .nil => .nil
  | _, _, 0, .cons _ b => .cons r b
  | _, _, i + 1, .cons a b => .cons a (DnAll.set r i b)
end

/-! ## the state -/
def ObR (K : PySem.W.Frag) (G : Hp) (A : List Addr) (H : Hp) (a : Addr) : Ob → Prop
  | .lst ds => ∃ vs, H a = some (.lst vs) ∧ DnAll K G A vs ds
  | .dct kds => ∃ kvs, H a = some (.dK kvs) ∧ DnKV K G A kvs kds
  | .ins _ _ => False
  | .dead => True
structure Rel (K : PySem.W.Frag) (A : List Addr) (S : Sto) (G H : Hp) : Prop where
  sub : Same G H
  len : A.length = S.length
  nd : A.Nodup
  dis : ∀ a ∈ A, G a = none
  live : ∀ a ∈ A, H a ≠ none
  ob : ∀ (n : Nat) (a : Addr) (o : Ob), A[n]? = some a → S[n]? = some o → ObR K G A H a o
def EnvR (K : PySem.W.Frag) (G : Hp) (A : List Addr) (s : L2.St) (r : Env) : Prop := s.length = r.length ∧ ∀ (i : Nat) (d : D), r[i]? = some (some d) → ∃ v, s[i]? = some (some v) ∧ Dn K G A v d
section
variable {K : PySem.W.Frag} {G G' H H' : Hp} {A A' : List Addr} {S : Sto} {s : L2.St} {r : Env}
theorem EnvR.mono (e : Same G G') (p : Pre A A') (h : EnvR K G A s r) : EnvR K G' A' s r :=
  ⟨h.1, fun i d q => let ⟨v, a, b⟩ := h.2 i d q; ⟨v, a, b.mono e p⟩⟩
theorem EnvR.set {i : Nat} {v : V} {d : D} (h : EnvR K G A s r) (x : Dn K G A v d) : EnvR K G A (s.set i (some v)) (r.set i (some d)) := by
  refine ⟨by simp [h.1], fun j e q => ?_⟩
  by_cases hj : i = j
  · subst hj
    have hl : i < r.length := by
      have := (List.getElem?_eq_some_iff.mp q).1
      simpa using this
    rw [List.getElem?_set_self hl] at q
    cases q
    exact ⟨v, by rw [List.getElem?_set_self (by rw [h.1]; exact hl)], x⟩
  · rw [List.getElem?_set_ne hj] at q
    obtain ⟨w, a, b⟩ := h.2 j e q
    exact ⟨w, by rw [List.getElem?_set_ne hj]; exact a, b⟩
theorem ObR.mono (hG : Same G G') (hA : Pre A A') {a : Addr} {o : Ob} (hH : ∀ u, H a = some u → H' a = some u) (h : ObR K G A H a o) : ObR K G' A' H' a o := by
  cases o with
  | lst ds => obtain ⟨vs, e, t⟩ := h; exact ⟨vs, hH _ e, t.mono hG hA⟩
  | dct ds => obtain ⟨vs, e, t⟩ := h; exact ⟨vs, hH _ e, t.mono hG hA⟩
  | ins _ _ => exact h
  | dead => exact h
theorem upd_same_of {H : Hp} {p : Addr} {o : HO} (h : H p = none) : Same H (upd H p o) := fun b x e => by
  rw [upd_ne (ne_of_none e h)]
  exact e
theorem Rel.free (q : Rel K A S G H) {p : Addr} (h : H p = none) : G p = none := q.sub.free h
theorem Rel.notin (q : Rel K A S G H) {p : Addr} (h : H p = none) : p ∉ A := fun m => q.live p m h
/-- a new thing that never changes -/
theorem Rel.new (q : Rel K A S G H) {p : Addr} (h : H p = none) (o : HO) : Rel K A S (upd G p o) (upd H p o) := by
  have hG := q.free h
  refine ⟨fun b x e => ?_, q.len, q.nd, fun a m => ?_, fun a m => ?_, fun n a ob e1 e2 => ?_⟩
  · by_cases hb : b = p
    · subst hb; rw [upd_same] at e ⊢; exact e
    · rw [upd_ne hb] at e ⊢; exact q.sub _ _ e
  · have : a ≠ p := fun z => q.notin h (z ▸ m)
    rw [upd_ne this]; exact q.dis a m
  · have : a ≠ p := fun z => q.notin h (z ▸ m)
    rw [upd_ne this]; exact q.live a m
  · exact (q.ob n a ob e1 e2).mono (upd_same_of hG) (Pre.refl _) (upd_same_of h a)
/-- a new thing that may change -/
theorem Rel.alloc (q : Rel K A S G H) {p : Addr} (h : H p = none) {o : HO} {b : Ob} (hb : ObR K G (A ++ [p]) (upd H p o) p b) : Rel K (A ++ [p]) (S ++ [b]) G (upd H p o) := by
  have hG := q.free h
  refine ⟨q.sub.trans (upd_same_of h), by simp [q.len], ?_, fun a m => ?_, fun a m => ?_, fun n a ob e1 e2 => ?_⟩
  · rw [List.nodup_append]
    refine ⟨q.nd, by simp, fun a m c mc => ?_⟩
    have : c = p := by simpa using mc
    subst this
    exact fun z => q.notin h (z ▸ m)
  · rcases List.mem_append.mp m with m | m
    · exact q.dis a m
    · have : a = p := by simpa using m
      subst this; exact hG
  · rcases List.mem_append.mp m with m | m
    · have : a ≠ p := fun z => q.notin h (z ▸ m)
      rw [upd_ne this]; exact q.live a m
    · have : a = p := by simpa using m
      subst this; rw [upd_same]; simp
  · by_cases hn : n < A.length
    · rw [List.getElem?_append_left hn] at e1
      rw [List.getElem?_append_left (by rw [← q.len]; exact hn)] at e2
      exact (q.ob n a ob e1 e2).mono (Same.refl _) (Pre.app _ _) (upd_same_of h a)
    · have hn' : n = A.length := by
        have := (List.getElem?_eq_some_iff.mp e1).1
        simp at this
        omega
      subst hn'
      have e1' : a = p := by simpa using e1.symm
      have e2' : ob = b := by
        rw [q.len] at e2
        simpa using e2.symm
      subst e1' e2'
      exact hb
/-- a thing that changes -/
theorem Rel.write (q : Rel K A S G H) {n : Nat} {a : Addr} {o : HO} {b : Ob} (e : A[n]? = some a) (hb : ObR K G A (upd H a o) a b) : Rel K A (S.set n b) G (upd H a o) := by
  have ma : a ∈ A := List.mem_of_getElem? e
  refine ⟨fun c x ec => ?_, by simp [q.len], q.nd, q.dis, fun c m => ?_, fun j c ob e1 e2 => ?_⟩
  · have : c ≠ a := fun z => by
      have := q.dis a ma
      rw [z, this] at ec; cases ec
    rw [upd_ne this]; exact q.sub _ _ ec
  · by_cases hc : c = a
    · subst hc; rw [upd_same]; simp
    · rw [upd_ne hc]; exact q.live c m
  · by_cases hj : n = j
    · subst hj
      rw [e] at e1; cases e1
      have hl : n < S.length := by rw [← q.len]; exact (List.getElem?_eq_some_iff.mp e).1
      rw [List.getElem?_set_self hl] at e2
      cases e2
      exact hb
    · rw [List.getElem?_set_ne hj] at e2
      have hc : c ≠ a := fun z => by
        subst z
        obtain ⟨h1, f1⟩ := List.getElem?_eq_some_iff.mp e
        obtain ⟨h2, f2⟩ := List.getElem?_eq_some_iff.mp e1
        exact hj ((List.getElem_inj q.nd).mp (f1.trans f2.symm))
      exact (q.ob j c ob e1 e2).mono (Same.refl _) (Pre.refl _) fun u z => by rw [upd_ne hc]; exact z
end

/-! ## the state later on: what never changes is kept, and so is every thing beside the ones that may change -/
structure Ex (A : List Addr) (G H : Hp) (A' : List Addr) (G' H' : Hp) : Prop where
  g : Same G G'
  p : Pre A A'
  f : ∀ a o, a ∉ A → H a = some o → a ∉ A' ∧ H' a = some o
  k : ∀ a o, H a = some o → G a = none → G' a = none
  l : ∀ a o, H a = some o → ∃ o', H' a = some o'
theorem Ex.refl {A : List Addr} {G H : Hp} : Ex A G H A G H := ⟨Same.refl _, Pre.refl _, fun _ _ n e => ⟨n, e⟩, fun _ _ _ e => e, fun _ o e => ⟨o, e⟩⟩
theorem Ex.trans {A A1 A2 : List Addr} {G G1 G2 H H1 H2 : Hp} (a : Ex A G H A1 G1 H1) (b : Ex A1 G1 H1 A2 G2 H2) : Ex A G H A2 G2 H2 :=
  ⟨a.g.trans b.g, a.p.trans b.p, fun x o n e => let ⟨n1, e1⟩ := a.f x o n e; b.f x o n1 e1, fun x o e n => let ⟨o1, e1⟩ := a.l x o e; b.k x o1 e1 (a.k x o e n), fun x o e => let ⟨o1, e1⟩ := a.l x o e; b.l x o1 e1⟩
section
variable {K : PySem.W.Frag} {G H : Hp} {A : List Addr} {S : Sto}
theorem Rel.exNew (q : Rel K A S G H) {p : Addr} (h : H p = none) (o : HO) : Ex A G H A (upd G p o) (upd H p o) :=
  ⟨upd_same_of (q.free h), Pre.refl _, fun a u n e => ⟨n, upd_same_of h a u e⟩, fun a u e n => by rw [upd_ne (ne_of_none e h)]; exact n, fun a u e => ⟨u, upd_same_of h a u e⟩⟩
theorem Rel.exAlloc (q : Rel K A S G H) {p : Addr} (h : H p = none) (o : HO) : Ex A G H (A ++ [p]) G (upd H p o) := by
  refine ⟨Same.refl _, Pre.app _ _, fun a u n e => ⟨fun m => ?_, upd_same_of h a u e⟩, fun a u e n => n, fun a u e => ⟨u, upd_same_of h a u e⟩⟩
  rcases List.mem_append.mp m with m | m
  · exact n m
  · have z : a = p := by simpa using m
    rw [z, h] at e
    cases e
theorem upd_some (H : Hp) (a : Addr) (o : HO) (b : Addr) (u : HO) (e : H b = some u) : ∃ u', upd H a o b = some u' := by
  by_cases hb : b = a
  · subst hb; exact ⟨o, upd_same⟩
  · exact ⟨u, by rw [upd_ne hb]; exact e⟩
theorem Ex.beside {A A' : List Addr} {G H G' H' : Hp} (e : Ex A G H A' G' H') {p : Addr} (h : H p = none) (o : HO) : Ex A G H A' G' (upd H' p o) :=
  ⟨e.g, e.p, fun a u n q => ⟨(e.f a u n q).1, by rw [upd_ne (ne_of_none q h)]; exact (e.f a u n q).2⟩, e.k, fun a u q => let ⟨o', q'⟩ := e.l a u q; ⟨o', by rw [upd_ne (ne_of_none q h)]; exact q'⟩⟩
theorem Ex.freeze {A A' : List Addr} {G H G' H' : Hp} (e : Ex A G H A' G' H') {p : Addr} (h : H p = none) (h1 : G' p = none) (o : HO) : Ex A G H A' (upd G' p o) H' :=
  ⟨e.g.trans (upd_same_of h1), e.p, e.f, fun a u q n => by rw [upd_ne (ne_of_none q h)]; exact e.k a u q n, e.l⟩
theorem Ex.own {A A' : List Addr} {G H G' H' : Hp} (e : Ex A G H A' G' H') {p : Addr} (h : H p = none) : Ex A G H (A' ++ [p]) G' H' :=
  ⟨e.g, e.p.trans (Pre.app _ _), fun a u n q => ⟨fun m => by
    rcases List.mem_append.mp m with m | m
    · exact (e.f a u n q).1 m
    · have z : a = p := by simpa using m
      exact absurd z (ne_of_none q h), (e.f a u n q).2⟩, e.k, e.l⟩
theorem Rel.exWrite (q : Rel K A S G H) {a : Addr} (h : a ∈ A) (o : HO) : Ex A G H A G (upd H a o) :=
  ⟨Same.refl _, Pre.refl _, fun b u n e => ⟨n, by
    have : b ≠ a := fun z => n (z ▸ h)
    rw [upd_ne this]; exact e⟩, fun _ _ _ n => n, upd_some H a o⟩
/-- a thing beside all these is new or changes -/
theorem Rel.beside (q : Rel K A S G H) {p : Addr} (h1 : G p = none) (h2 : p ∉ A) (o : HO) : Rel K A S G (upd H p o) := by
  refine ⟨fun b x e => ?_, q.len, q.nd, q.dis, fun a m => ?_, fun n a ob e1 e2 => ?_⟩
  · have : b ≠ p := fun z => by rw [z, h1] at e; cases e
    rw [upd_ne this]; exact q.sub _ _ e
  · have : a ≠ p := fun z => h2 (z ▸ m)
    rw [upd_ne this]; exact q.live a m
  · have : a ≠ p := fun z => h2 (z ▸ List.mem_of_getElem? e1)
    exact (q.ob n a ob e1 e2).mono (Same.refl _) (Pre.refl _) fun u z => by rw [upd_ne this]; exact z
/-- .. never changes any more -/
theorem Rel.freeze (q : Rel K A S G H) {p : Addr} {o : HO} (h1 : G p = none) (h2 : p ∉ A) (h3 : H p = some o) : Rel K A S (upd G p o) H := by
  refine ⟨fun b x e => ?_, q.len, q.nd, fun a m => ?_, q.live, fun n a ob e1 e2 => ?_⟩
  · by_cases hb : b = p
    · subst hb; rw [upd_same] at e; cases e; exact h3
    · rw [upd_ne hb] at e; exact q.sub _ _ e
  · have : a ≠ p := fun z => h2 (z ▸ m)
    rw [upd_ne this]; exact q.dis a m
  · exact (q.ob n a ob e1 e2).mono (upd_same_of h1) (Pre.refl _) fun u z => z
/-- .. is one of those that may change -/
theorem Rel.own (q : Rel K A S G H) {p : Addr} {b : Ob} (h1 : G p = none) (h2 : p ∉ A) (h3 : H p ≠ none) (hb : ObR K G (A ++ [p]) H p b) : Rel K (A ++ [p]) (S ++ [b]) G H := by
  refine ⟨q.sub, by simp [q.len], ?_, fun a m => ?_, fun a m => ?_, fun n a ob e1 e2 => ?_⟩
  · rw [List.nodup_append]
    refine ⟨q.nd, by simp, fun a m c mc => ?_⟩
    have : c = p := by simpa using mc
    subst this
    exact fun z => h2 (z ▸ m)
  · rcases List.mem_append.mp m with m | m
    · exact q.dis a m
    · have : a = p := by simpa using m
      subst this; exact h1
  · rcases List.mem_append.mp m with m | m
    · exact q.live a m
    · have : a = p := by simpa using m
      subst this; exact h3
  · by_cases hn : n < A.length
    · rw [List.getElem?_append_left hn] at e1
      rw [List.getElem?_append_left (by rw [← q.len]; exact hn)] at e2
      exact (q.ob n a ob e1 e2).mono (Same.refl _) (Pre.app _ _) fun _ z => z
    · have hn' : n = A.length := by
        have := (List.getElem?_eq_some_iff.mp e1).1
        simp at this
        omega
      subst hn'
      have e1' : a = p := by simpa using e1.symm
      have e2' : ob = b := by
        rw [q.len] at e2
        simpa using e2.symm
      subst e1' e2'
      exact hb
end

/-! ## reading through a reference -/
def vwO (n : Nat) : Option Ob → D
  | some (.lst xs) => .lst xs
  | some (.dct kvs) => .dct kvs
  | _ => .ref n
def vw (S : Sto) : D → D
  | .ref n => vwO n S[n]?
  | d => d
inductive Dv (K : PySem.W.Frag) (G : Hp) (A : List Addr) (H : Hp) : V → D → Prop
  | of {v : V} {d : D} : Dn K G A v d → Dv K G A H v d
  | lst {a : Addr} {vs : List V} {ds : List D} : H a = some (.lst vs) → DnAll K G A vs ds → Dv K G A H (.ref a) (.lst ds)
  | dct {a : Addr} {kvs : List (Key × V)} {kds : List (Key × D)} : H a = some (.dK kvs) → DnKV K G A kvs kds → Dv K G A H (.ref a) (.dct kds)
section
variable {K : PySem.W.Frag} {G H : Hp} {A : List Addr} {S : Sto} {v : V} {d : D}
theorem Rel.view (q : Rel K A S G H) (h : Dn K G A v d) : Dv K G A H v (vw S d) := by
  cases h with
  | @ref n a e =>
    have hn : n < S.length := by rw [← q.len]; exact (List.getElem?_eq_some_iff.mp e).1
    have eo : S[n]? = some S[n] := List.getElem?_eq_getElem hn
    have w := q.ob n a _ e eo
    show Dv K G A H (.ref a) (vwO n S[n]?)
    rw [eo]
    cases hs : S[n] with
    | lst xs => rw [hs] at w; obtain ⟨vs, e1, t⟩ := w; exact .lst e1 t
    | dct xs => rw [hs] at w; obtain ⟨vs, e1, t⟩ := w; exact .dct e1 t
    | ins _ _ => exact .of (.ref e)
    | dead => exact .of (.ref e)
  | non => exact .of .non
  | bl b => exact .of (.bl b)
  | int i => exact .of (.int i)
  | str x o => exact .of (.str x o)
  | lst s t => exact .of (.lst s t)
  | tup s t => exact .of (.tup s t)
  | dct s t => exact .of (.dct s t)
theorem Dv.lstE {ds : List D} (h : Dv K G A H v (.lst ds)) (q : Rel K A S G H) : ∃ a vs, v = .ref a ∧ LAt K H a vs ∧ DnAll K G A vs ds := by
  cases h with
  | of h => cases h with | lst s t => exact ⟨_, _, rfl, sql_same q.sub s, t⟩
  | lst e t => exact ⟨_, _, rfl, .inl (.of e), t⟩
theorem Dv.tupE {ds : List D} (h : Dv K G A H v (.tup ds)) (q : Rel K A S G H) : ∃ a vs, v = .ref a ∧ TupAt K H a vs ∧ DnAll K G A vs ds := by
  cases h with
  | of h => cases h with | tup s t => exact ⟨_, _, rfl, s.same q.sub, t⟩
theorem Dv.dctE {ds : List (Key × D)} (h : Dv K G A H v (.dct ds)) (q : Rel K A S G H) : ∃ a vs, v = .ref a ∧ H a = some (.dK vs) ∧ DnKV K G A vs ds := by
  cases h with
  | of h => cases h with | dct s t => exact ⟨_, _, rfl, q.sub _ _ s, t⟩
  | dct e t => exact ⟨_, _, rfl, e, t⟩
theorem Dv.intE {i : Int} (h : Dv K G A H v (.int i)) : v = .int i := by cases h with | of h => cases h; rfl
theorem Dv.blE {i : Bool} (h : Dv K G A H v (.bl i)) : v = .bl i := by cases h with | of h => cases h; rfl
theorem Dv.nonE (h : Dv K G A H v .non) : v = .non := by cases h with | of h => cases h; rfl
theorem Dv.strE {x : Str} (h : Dv K G A H v (.str x)) : v = .str x ∧ PyData.strOk x = true := by cases h with | of h => cases h with | str _ o => exact ⟨rfl, o⟩
end
end FL
end

section
set_option Elab.async false
set_option linter.all false
set_option maxRecDepth 100000
set_option autoImplicit false
namespace FL
open PySem PySem.Spec PyProof.Rows L2

/-! ## judgements -/
/-- how an error stands for its datum -/
def XR (mg : Str → Option Value) (K : PySem.W.Frag) (G : Hp) (A : List Addr) (H : Hp) (x : Exn) (c : Value) (dx : Option Addr) : Prop :=
  mg x.cls = some c ∧ ∃ d vs, dx = some d ∧ H d = some (.xd (x.ks.zip vs)) ∧ DnAll K G A vs x.ds
def QE (K : PySem.W.Frag) (mg : Str → Option Value) (EE : XK) (G : Hp) (A : List Addr) (H : Hp) : Exn → Sto → Prop := fun x S' =>
  ∀ G' A' H' c dx, Ex A G H A' G' H' → Rel K A' S' G' H' → XR mg K G' A' H' x c dx → EE c dx H'
def QV (K : PySem.W.Frag) (G : Hp) (A : List Addr) (H : Hp) (Q : VK) : D → Sto → Prop := fun d S' =>
  ∀ G' A' H' v, Ex A G H A' G' H' → Rel K A' S' G' H' → Dn K G' A' v d → Q v H'
def QB (K : PySem.W.Frag) (G : Hp) (A : List Addr) (H : Hp) (Q : Bool → Hp → Prop) : Bool → Sto → Prop := fun b S' =>
  ∀ G' A' H', Ex A G H A' G' H' → Rel K A' S' G' H' → Q b H'
def QL (K : PySem.W.Frag) (G : Hp) (A : List Addr) (H : Hp) (Q : List V → Hp → Prop) : List D → Sto → Prop := fun ds S' =>
  ∀ G' A' H' vs, Ex A G H A' G' H' → Rel K A' S' G' H' → DnAll K G' A' vs ds → Q vs H'
def QEnv (K : PySem.W.Frag) (G : Hp) (A : List Addr) (H : Hp) (Q : L2.St → Hp → Prop) : Env → Sto → Prop := fun r S' =>
  ∀ G' A' H' s', Ex A G H A' G' H' → Rel K A' S' G' H' → EnvR K G' A' s' r → Q s' H'
def QF (K : PySem.W.Frag) (G : Hp) (A : List Addr) (H : Hp) (T : Ends) : Fl → Sto → Prop
  | .nx r, S' => QEnv K G A H T.nx r S'
  | .bk r, S' => QEnv K G A H T.bk r S'
  | .ct r, S' => QEnv K G A H T.ct r S'
  | .rt d, S' => QV K G A H T.rt d S'
section
variable {K : PySem.W.Frag} {mg : Str → Option Value} {EE : XK} {G G1 H H1 : Hp} {A A1 : List Addr} {S : Sto}
theorem QE.mono (e : Ex A G H A1 G1 H1) {x : Exn} (h : QE K mg EE G A H x S) : QE K mg EE G1 A1 H1 x S :=
  fun G' A' H' c dx a => h G' A' H' c dx (e.trans a)
theorem QV.mono (e : Ex A G H A1 G1 H1) {Q : VK} {d : D} (h : QV K G A H Q d S) : QV K G1 A1 H1 Q d S :=
  fun G' A' H' v a => h G' A' H' v (e.trans a)
theorem QB.mono (e : Ex A G H A1 G1 H1) {Q : Bool → Hp → Prop} {d : Bool} (h : QB K G A H Q d S) : QB K G1 A1 H1 Q d S :=
  fun G' A' H' a => h G' A' H' (e.trans a)
theorem QL.mono (e : Ex A G H A1 G1 H1) {Q : List V → Hp → Prop} {d : List D} (h : QL K G A H Q d S) : QL K G1 A1 H1 Q d S :=
  fun G' A' H' v a => h G' A' H' v (e.trans a)
theorem QEnv.mono (e : Ex A G H A1 G1 H1) {Q : L2.St → Hp → Prop} {d : Env} (h : QEnv K G A H Q d S) : QEnv K G1 A1 H1 Q d S :=
  fun G' A' H' v a => h G' A' H' v (e.trans a)
theorem QF.mono (e : Ex A G H A1 G1 H1) {T : Ends} {f : Fl} (h : QF K G A H T f S) : QF K G1 A1 H1 T f S := by
  cases f with
  | nx r => exact QEnv.mono e h
  | bk r => exact QEnv.mono e h
  | ct r => exact QEnv.mono e h
  | rt d => exact QV.mono e h
end
abbrev FEx := Env → M D
abbrev FTx := Env → M Bool
abbrev FAx := Env → M (List D)
abbrev FSx := Env → M Fl
abbrev FGx := D → Env → M Env
def RE (X : Cx) (EE : XK) (f : FEx) : TE := fun s H Q => ∃ r G A S, EnvR X.K G A s r ∧ Rel X.K A S G H ∧ (f r S).post (QV X.K G A H Q) (QE X.K X.mg EE G A H)
def RT (X : Cx) (EE : XK) (f : FTx) : TT := fun s H Q => ∃ r G A S, EnvR X.K G A s r ∧ Rel X.K A S G H ∧ (f r S).post (QB X.K G A H Q) (QE X.K X.mg EE G A H)
def RA (X : Cx) (EE : XK) (f : FAx) : TA := fun s H Q => ∃ r G A S, EnvR X.K G A s r ∧ Rel X.K A S G H ∧ (f r S).post (QL X.K G A H Q) (QE X.K X.mg EE G A H)
def RS (X : Cx) (EE : XK) (f : FSx) : TS := fun T s H => ∃ r G A S, EnvR X.K G A s r ∧ Rel X.K A S G H ∧ (f r S).post (QF X.K G A H T) (QE X.K X.mg EE G A H)
def RG (X : Cx) (EE : XK) (f : FGx) : TG := fun v s H Q => ∃ r G A S d, EnvR X.K G A s r ∧ Rel X.K A S G H ∧ Dn X.K G A v d ∧ (f d r S).post (QEnv X.K G A H Q) (QE X.K X.mg EE G A H)
def RGs (X : Cx) (EE : XK) (f : List D → Env → M Env) : TGs := fun vs s H Q => ∃ r G A S ds, EnvR X.K G A s r ∧ Rel X.K A S G H ∧ DnAll X.K G A vs ds ∧ (f ds r S).post (QEnv X.K G A H Q) (QE X.K X.mg EE G A H)
abbrev FE (X : Cx) (EE : XK) (e : Expr) (f : FEx) : Prop := PE X e (RE X EE f)
abbrev FT (X : Cx) (EE : XK) (e : Expr) (f : FTx) : Prop := PT X e (RT X EE f)
abbrev FW (X : Cx) (EE : XK) (e : Expr) (f : FTx) : Prop := PW X e (RT X EE f)
abbrev FA (X : Cx) (EE : XK) (es : List Expr) (f : FAx) : Prop := PA X es (RA X EE f)
abbrev FS (X : Cx) (EE : XK) (st : Stmt) (f : FSx) : Prop := PS X st (RS X EE f)
abbrev FSs (X : Cx) (EE : XK) (st : List Stmt) (f : FSx) : Prop := PSs X st (RS X EE f)
abbrev FG (X : Cx) (EE : XK) (tg : Expr) (f : FGx) : Prop := PG X tg (RG X EE f)
abbrev FGs (X : Cx) (EE : XK) (tg : List Expr) (f : List D → Env → M Env) : Prop := PGs X tg (RGs X EE f)

theorem pe_weak {X : Cx} {e : Expr} {t t' : TE} (h : PE X e t) (w : ∀ s H Q, t' s H Q → t s H Q) : PE X e t' := ⟨fun pins s σ H Q I q => h.run pins s σ H Q I (w _ _ _ q)⟩
theorem pt_weak {X : Cx} {e : Expr} {t t' : TT} (h : PT X e t) (w : ∀ s H Q, t' s H Q → t s H Q) : PT X e t' := ⟨fun pins s σ H Q I q => h.run pins s σ H Q I (w _ _ _ q)⟩
theorem pw_weak {X : Cx} {e : Expr} {t t' : TT} (h : PW X e t) (w : ∀ s H Q, t' s H Q → t s H Q) : PW X e t' := ⟨fun wh pins s σ H Q I q => h.run wh pins s σ H Q I (w _ _ _ q)⟩
theorem pa_weak {X : Cx} {e : List Expr} {t t' : TA} (h : PA X e t) (w : ∀ s H Q, t' s H Q → t s H Q) : PA X e t' := ⟨fun pos pins s σ H Q I q => h.run pos pins s σ H Q I (w _ _ _ q)⟩
theorem ps_weak {X : Cx} {e : Stmt} {t t' : TS} (h : PS X e t) (w : ∀ T s H, t' T s H → t T s H) : PS X e t' := ⟨fun pins s σ H T I q => h.run pins s σ H T I (w _ _ _ q)⟩
theorem pss_weak {X : Cx} {e : List Stmt} {t t' : TS} (h : PSs X e t) (w : ∀ T s H, t' T s H → t T s H) : PSs X e t' := ⟨fun pins s σ H T I q => h.run pins s σ H T I (w _ _ _ q)⟩
theorem pg_weak {X : Cx} {e : Expr} {t t' : TG} (h : PG X e t) (w : ∀ v s H Q, t' v s H Q → t v s H Q) : PG X e t' := ⟨fun pins s σ H v u Q I r q => h.run pins s σ H v u Q I r (w _ _ _ _ q)⟩
theorem pgs_weak {X : Cx} {e : List Expr} {t t' : TGs} (h : PGs X e t) (w : ∀ v s H Q, t' v s H Q → t v s H Q) : PGs X e t' := ⟨fun pins s σ H v u Q I r q => h.run pins s σ H v u Q I r (w _ _ _ _ q)⟩

section
variable {X : Cx} {EE : XK}
/-- one part after another: the first is an expression -/
theorem re_bnd {s : L2.St} {H : Hp} {Q : VK} {r : Env} {G : Hp} {A : List Addr} {S : Sto} {α : Type} {f : FEx} {k : D → M α} {P : α → Sto → Prop} {E : Exn → Sto → Prop}
    (hr : EnvR X.K G A s r) (hR : Rel X.K A S G H) (h : (bnd (f r) k S).post P E) (hE : ∀ x S', E x S' → QE X.K X.mg EE G A H x S')
    (w : ∀ G' A' H' v d S', Ex A G H A' G' H' → EnvR X.K G' A' s r → Rel X.K A' S' G' H' → Dn X.K G' A' v d → (k d S').post P E → Q v H') : RE X EE f s H Q := by
  rw [post_bnd] at h
  refine ⟨r, G, A, S, hr, hR, h.mono (fun d S' q G' A' H' v a c e => w G' A' H' v d S' a (hr.mono a.g a.p) c e q) hE⟩
theorem rt_bnd {s : L2.St} {H : Hp} {Q : Bool → Hp → Prop} {r : Env} {G : Hp} {A : List Addr} {S : Sto} {α : Type} {f : FTx} {k : Bool → M α} {P : α → Sto → Prop} {E : Exn → Sto → Prop}
    (hr : EnvR X.K G A s r) (hR : Rel X.K A S G H) (h : (bnd (f r) k S).post P E) (hE : ∀ x S', E x S' → QE X.K X.mg EE G A H x S')
    (w : ∀ G' A' H' d S', Ex A G H A' G' H' → EnvR X.K G' A' s r → Rel X.K A' S' G' H' → (k d S').post P E → Q d H') : RT X EE f s H Q := by
  rw [post_bnd] at h
  refine ⟨r, G, A, S, hr, hR, h.mono (fun d S' q G' A' H' a c => w G' A' H' d S' a (hr.mono a.g a.p) c q) hE⟩
theorem ra_bnd {s : L2.St} {H : Hp} {Q : List V → Hp → Prop} {r : Env} {G : Hp} {A : List Addr} {S : Sto} {α : Type} {f : FAx} {k : List D → M α} {P : α → Sto → Prop} {E : Exn → Sto → Prop}
    (hr : EnvR X.K G A s r) (hR : Rel X.K A S G H) (h : (bnd (f r) k S).post P E) (hE : ∀ x S', E x S' → QE X.K X.mg EE G A H x S')
    (w : ∀ G' A' H' v d S', Ex A G H A' G' H' → EnvR X.K G' A' s r → Rel X.K A' S' G' H' → DnAll X.K G' A' v d → (k d S').post P E → Q v H') : RA X EE f s H Q := by
  rw [post_bnd] at h
  refine ⟨r, G, A, S, hr, hR, h.mono (fun d S' q G' A' H' v a c e => w G' A' H' v d S' a (hr.mono a.g a.p) c e q) hE⟩
/-- the wish moved on -/
theorem post_on {α : Type} {m : R α} {P P' : α → Sto → Prop} {G G1 H H1 : Hp} {A A1 : List Addr} (a : Ex A G H A1 G1 H1) (h : m.post P (QE X.K X.mg EE G A H)) (w : ∀ d S', P d S' → P' d S') : m.post P' (QE X.K X.mg EE G1 A1 H1) :=
  h.mono w fun _ _ q => q.mono a

/-! ## names, constants -/
def eVar (i : Nat) : FEx := fun r => opt (r[i]?.join)
theorem fe_var {i : Nat} {e : Expr} (h : PE X e (tVar i)) : FE X EE e (eVar i) := by
  refine pe_weak h fun s H Q ⟨r, G, A, S, hr, hR, q⟩ => ?_
  unfold eVar at q
  rw [post_opt] at q
  obtain ⟨d, e1, q⟩ := q
  have e2 : r[i]? = some (some d) := by
    cases z : r[i]? with
    | none => rw [z] at e1; cases e1
    | some o => rw [z] at e1; cases o with
      | none => cases e1
      | some x => cases e1; rfl
  obtain ⟨v, e3, dn⟩ := hr.2 i d e2
  exact ⟨v, e3, q G A H v Ex.refl hR dn⟩
def eC (d : D) : FEx := fun _ => ret d
theorem fe_c {d : D} {v : V} {e : Expr} (h : PE X e (tC v)) (hd : ∀ G A, Dn X.K G A v d) : FE X EE e (eC d) := by
  refine pe_weak h fun s H Q ⟨r, G, A, S, hr, hR, q⟩ => ?_
  exact q G A H v Ex.refl hR (hd G A)
theorem fe_int {i : Int} {j pos} : FE X EE (.Constant (.int i) j pos) (eC (.int i)) := fe_c pe_int fun _ _ => .int i
theorem fe_str {x : Str} {j pos} (h : PyData.strOk x = true := by decide) : FE X EE (.Constant (.str x) j pos) (eC (.str x)) := fe_c pe_str fun _ _ => .str x h
theorem fe_bl {b : Bool} {j pos} : FE X EE (.Constant (.bool b) j pos) (eC (.bl b)) := fe_c pe_bl fun _ _ => .bl b
theorem fe_non {j pos} : FE X EE (.Constant .none j pos) (eC .non) := fe_c pe_non fun _ _ => .non

/-! ## two operands -/
def rD2 (K : PySem.W.Frag) (g : D → D → Option D) : R2 := fun x y H Q => ∃ G A S d e z, Rel K A S G H ∧ Dv K G A H x d ∧ Dv K G A H y e ∧ g d e = some z ∧
  ∀ G' H' v, Ex A G H A G' H' → Rel K A S G' H' → Dn K G' A v z → Q v H'
def eBin (g : D → D → Option D) (fa fb : FEx) : FEx := fun r => bnd (fa r) fun x => bnd (fb r) fun y => fun S => opt (g (vw S x) (vw S y)) S
variable {a b c : Expr} {fa fb fc : FEx} {pos : Pos}
theorem to_bin {g : D → D → Option D} : ∀ s H Q, RE X EE (eBin g fa fb) s H Q → tOp (rD2 X.K g) (RE X EE fa) (RE X EE fb) s H Q := by
  intro s H Q ⟨r, G, A, S, hr, hR, q⟩
  refine re_bnd hr hR q (fun _ _ z => z) fun G1 A1 H1 x d S1 a1 r1 R1 n1 q1 => ?_
  refine re_bnd r1 R1 q1 (fun _ _ z => z.mono a1) fun G2 A2 H2 y e S2 a2 r2 R2 n2 q2 => ?_
  rw [post_opt] at q2
  obtain ⟨z, hz, q2⟩ := q2
  exact ⟨G2, A2, S2, _, _, z, R2, R2.view (n1.mono a2.g a2.p), R2.view n2, hz, fun G3 H3 v a3 R3 n3 => q2 G3 A2 H3 v ((a1.trans a2).trans a3) R3 n3⟩
theorem fe_op {op : Operator} {g : D → D → Option D} (ho : OpR X (binaryOp op) (rD2 X.K g)) (ha : FE X EE a fa) (hb : FE X EE b fb) : FE X EE (.BinOp a op b pos) (eBin g fa fb) :=
  pe_weak (pe_op ho ha hb) to_bin
theorem fe_cmp {op : CmpOp} {g : D → D → Option D} (ho : OpR X (compareOp op) (rD2 X.K g)) (ha : FE X EE a fa) (hb : FE X EE b fb) (hm : behindInMarks op b = false := by first | exact nomark _ | rfl) : FE X EE (.Compare a [op] [b] pos) (eBin g fa fb) :=
  pe_weak (pe_cmpR ho ha hb hm) to_bin
theorem fe_ix {g : D → D → Option D} (ho : IxR X (rD2 X.K g)) (ha : FE X EE a fa) (hb : FE X EE b fb) (hs : PlainIx b := by exact fun _ _ => rfl) : FE X EE (.Subscript a b pos) (eBin g fa fb) :=
  pe_weak (pe_ix ho ha hb hs) to_bin
/-- a comparison as a test -/
def asB (f : FEx) : FTx := fun r => bnd (f r) fun d => match d with
  | .bl k => ret k
  | _ => fun _ => .no
theorem to_test {g : D → D → Option D} : ∀ s H Q, RT X EE (asB (eBin g fa fb)) s H Q → tTest (tOp (rD2 X.K g) (RE X EE fa) (RE X EE fb)) s H Q := by
  intro s H Q ⟨r, G, A, S, hr, hR, q⟩
  refine to_bin s H _ (re_bnd hr hR q (fun _ _ z => z) fun G1 A1 H1 x d S1 a1 r1 R1 n1 q1 => ?_)
  cases d with
  | bl k => cases n1; exact ⟨k, rfl, q1 G1 A1 H1 a1 R1⟩
  | non => exact q1.elim
  | int _ => exact q1.elim
  | str _ => exact q1.elim
  | lst _ => exact q1.elim
  | tup _ => exact q1.elim
  | dct _ => exact q1.elim
  | ref _ => exact q1.elim
theorem ft_cmp {op : CmpOp} {g : D → D → Option D} (ho : OpR X (compareOp op) (rD2 X.K g)) (ha : FE X EE a fa) (hb : FE X EE b fb) (hm : behindInMarks op b = false := by first | exact nomark _ | rfl) : FT X EE (.Compare a [op] [b] pos) (asB (eBin g fa fb)) :=
  pt_weak (pt_cmpR ho ha hb hm) to_test
/-- a chain a < b < c -/
def eChain (g g' : D → D → Option D) (fa fb fc : FEx) : FEx := fun r => bnd (fa r) fun x => bnd (fb r) fun y => bnd (fun S => opt (g (vw S x) (vw S y)) S) fun k => match k with
  | .bl true => bnd (fc r) fun z => fun S => opt (g' (vw S y) (vw S z)) S
  | .bl false => ret (.bl false)
  | _ => fun _ => .no
theorem to_chain {g g' : D → D → Option D} : ∀ s H Q, RE X EE (eChain g g' fa fb fc) s H Q → tChain (rD2 X.K g) (rD2 X.K g') (RE X EE fa) (RE X EE fb) (RE X EE fc) s H Q := by
  intro s H Q ⟨r, G, A, S, hr, hR, q⟩
  refine re_bnd hr hR q (fun _ _ z => z) fun G1 A1 H1 x d S1 a1 r1 R1 n1 q1 => ?_
  refine re_bnd r1 R1 q1 (fun _ _ z => z.mono a1) fun G2 A2 H2 y e S2 a2 r2 R2 n2 q2 => ?_
  rw [post_bnd, post_opt] at q2
  obtain ⟨z, hz, q2⟩ := q2
  refine ⟨G2, A2, S2, _, _, z, R2, R2.view (n1.mono a2.g a2.p), R2.view n2, hz, fun G3 H3 v a3 R3 n3 => ?_⟩
  cases z with
  | bl k =>
    cases n3
    refine ⟨k, rfl, ?_⟩
    cases k with
    | true =>
      rw [if_pos rfl]
      refine re_bnd (r2.mono a3.g a3.p) R3 q2 (fun _ _ z => z.mono ((a1.trans a2).trans a3)) fun G4 A4 H4 w e4 S4 a4 r4 R4 n4 q4 => ?_
      rw [post_opt] at q4
      obtain ⟨z4, hz4, q4⟩ := q4
      exact ⟨G4, A4, S4, _, _, z4, R4, R4.view (n2.mono (a3.trans a4).g (a3.trans a4).p), R4.view n4, hz4, fun G5 H5 v a5 R5 n5 => q4 G5 A4 H5 v (((a1.trans a2).trans a3).trans (a4.trans a5)) R5 n5⟩
    | false =>
      rw [if_neg Bool.false_ne_true]
      exact q2 G3 A2 H3 _ ((a1.trans a2).trans a3) R3 (.bl false)
  | non => exact q2.elim
  | int _ => exact q2.elim
  | str _ => exact q2.elim
  | lst _ => exact q2.elim
  | tup _ => exact q2.elim
  | dct _ => exact q2.elim
  | ref _ => exact q2.elim
end
end FL
end

section
set_option Elab.async false
set_option linter.all false
set_option maxRecDepth 100000
set_option autoImplicit false
namespace FL
open PySem PySem.Spec PyProof.Rows L2
section
variable {X : Cx} {EE : XK} {a b c : Expr} {fa fb fc : FEx} {ta tb : FTx} {pos : Pos} {rest : List Expr}

theorem asB_to {f : FEx} {t : TE} (h : ∀ s H Q, RE X EE f s H Q → t s H Q) : ∀ s H Q, RT X EE (asB f) s H Q → tTest t s H Q := by
  intro s H Q ⟨r, G, A, S, hr, hR, q⟩
  refine h s H _ (re_bnd hr hR q (fun _ _ z => z) fun G1 A1 H1 x d S1 a1 r1 R1 n1 q1 => ?_)
  cases d with
  | bl k => cases n1; exact ⟨k, rfl, q1 G1 A1 H1 a1 R1⟩
  | non => exact q1.elim
  | int _ => exact q1.elim
  | str _ => exact q1.elim
  | lst _ => exact q1.elim
  | tup _ => exact q1.elim
  | dct _ => exact q1.elim
  | ref _ => exact q1.elim
theorem fe_chain {op op' : CmpOp} {g g' : D → D → Option D} (ho : OpR X (compareOp op) (rD2 X.K g)) (ho' : OpR X (compareOp op') (rD2 X.K g')) (ha : FE X EE a fa) (hb : FE X EE b fb) (hc : FE X EE c fc)
    (hm : lastMarks [op, op'] [b, c] = false := by with_unfolding_all rfl) : FE X EE (.Compare a [op, op'] [b, c] pos) (eChain g g' fa fb fc) :=
  pe_weak (pe_chain ho ho' ha hb hc hm) to_chain
theorem ft_chain {op op' : CmpOp} {g g' : D → D → Option D} (ho : OpR X (compareOp op) (rD2 X.K g)) (ho' : OpR X (compareOp op') (rD2 X.K g')) (ha : FE X EE a fa) (hb : FE X EE b fb) (hc : FE X EE c fc)
    (hm : lastMarks [op, op'] [b, c] = false := by with_unfolding_all rfl) : FT X EE (.Compare a [op, op'] [b, c] pos) (asB (eChain g g' fa fb fc)) :=
  pt_weak (pt_chain ho ho' ha hb hc hm) (asB_to to_chain)

/-! ## truth -/
def cap {α : Type} (n : Nat) (a : α) : Option α := if n ≤ 1000000 then some a else none
theorem cap_eq {α : Type} {n : Nat} {a b : α} (h : cap n a = some b) : a = b ∧ n ≤ 1000000 := by
  unfold cap at h
  split at h
  · rename_i hl; cases h; exact ⟨rfl, hl⟩
  · cases h
def truD : D → Option Bool
  | .non => some false
  | .bl b => some b
  | .int i => some (i != 0)
  | .str x => cap x.length ((x.length : Int) != 0)
  | .lst xs => some (!xs.isEmpty)
  | .tup xs => some (!xs.isEmpty)
  | .dct xs => some (!xs.isEmpty)
  | .ref _ => none
theorem small_line {n : Nat} (h : n ≤ 1000000) : n ≤ sizeLine := Nat.le_trans h (by decide)
theorem isEmpty_all {K : PySem.W.Frag} {G : Hp} {A : List Addr} {vs : List V} {ds : List D} (h : DnAll K G A vs ds) : vs.isEmpty = ds.isEmpty := by cases h <;> rfl
theorem isEmpty_kvs {K : PySem.W.Frag} {G : Hp} {A : List Addr} {vs : List (Key × V)} {ds : List (Key × D)} (h : DnKV K G A vs ds) : vs.isEmpty = ds.isEmpty := by cases h <;> rfl
theorem tru_v {K : PySem.W.Frag} {G H : Hp} {A : List Addr} {S : Sto} {v : V} {d : D} {k : Bool} (R : Rel K A S G H) (h : Dv K G A H v d) (e : truD d = some k) : TruV K v H k := by
  cases d with
  | non => rw [h.nonE]; cases e; rfl
  | bl b => rw [h.blE]; cases e; rfl
  | int i => rw [h.intE]; cases e; rfl
  | str x =>
    obtain ⟨rfl, _⟩ := h.strE
    obtain ⟨rfl, hx⟩ := cap_eq (show cap x.length ((x.length : Int) != 0) = some k from e)
    exact ⟨small_line hx, rfl⟩
  | lst xs => obtain ⟨p, vs, rfl, s, t⟩ := h.lstE R; cases e; exact .inl ⟨vs, s.sq, by rw [isEmpty_all t]⟩
  | tup xs => obtain ⟨p, vs, rfl, s, t⟩ := h.tupE R; cases e; exact .inr (.inl ⟨vs, s.sq, by rw [isEmpty_all t]⟩)
  | dct xs => obtain ⟨p, vs, rfl, s, t⟩ := h.dctE R; cases e; exact   .inr (.inr ⟨vs, s, by rw [isEmpty_kvs t]⟩)
  | ref n => cases e
def asT (f : FEx) : FTx := fun r => bnd (f r) fun d => fun S => opt (truD (vw S d)) S
theorem ft_val (ha : FE X EE a fa) (he : ∀ whole, isTrue a X.env whole = (do let v ← whole; standAt a.pos; holding [v] (truthy v)) := by intro _; rfl) : FT X EE a (asT fa) := by
  refine pt_weak (pt_truth ha he) fun s H Q ⟨r, G, A, S, hr, hR, q⟩ => ?_
  refine re_bnd hr hR q (fun _ _ z => z) fun G1 A1 H1 x d S1 a1 r1 R1 n1 q1 => ?_
  rw [post_opt] at q1
  obtain ⟨k, e, q1⟩ := q1
  exact ⟨k, tru_v R1 (R1.view n1) e, q1 G1 A1 H1 a1 R1⟩

/-! ## and, or, not -/
def tAnd2 (t u : FTx) : FTx := fun r => bnd (t r) fun k => if k = true then u r else ret false
def tOr2 (t u : FTx) : FTx := fun r => bnd (t r) fun k => if k = true then ret true else u r
def tNot1 (t : FTx) : FTx := fun r => bnd (t r) fun k => ret (!k)
theorem fw_and1 (ha : FT X EE a ta) : FW X EE (.BoolOp .And [a] pos) ta := pw_and1 ha
theorem fw_or1 (ha : FT X EE a ta) : FW X EE (.BoolOp .Or [a] pos) ta := pw_or1 ha
theorem fw_and (ha : FT X EE a ta) (hb : FW X EE (.BoolOp .And (b :: rest) pos) tb) : FW X EE (.BoolOp .And (a :: b :: rest) pos) (tAnd2 ta tb) := by
  refine pw_weak (pw_and ha hb) fun s H Q ⟨r, G, A, S, hr, hR, q⟩ => ?_
  refine rt_bnd hr hR q (fun _ _ z => z) fun G1 A1 H1 k S1 a1 r1 R1 q1 => ?_
  cases k with
  | true => exact iteT ⟨r, G1, A1, S1, r1, R1, post_on a1 q1 fun _ _ z => z.mono a1⟩
  | false => exact iteF (q1 G1 A1 H1 a1 R1)
theorem fw_or (ha : FT X EE a ta) (hb : FW X EE (.BoolOp .Or (b :: rest) pos) tb) : FW X EE (.BoolOp .Or (a :: b :: rest) pos) (tOr2 ta tb) := by
  refine pw_weak (pw_or ha hb) fun s H Q ⟨r, G, A, S, hr, hR, q⟩ => ?_
  refine rt_bnd hr hR q (fun _ _ z => z) fun G1 A1 H1 k S1 a1 r1 R1 q1 => ?_
  cases k with
  | true => exact iteT (q1 G1 A1 H1 a1 R1)
  | false => exact iteF ⟨r, G1, A1, S1, r1, R1, post_on a1 q1 fun _ _ z => z.mono a1⟩
theorem ft_not (ha : FT X EE a ta) : FT X EE (.UnaryOp .Not a pos) (tNot1 ta) := by
  refine pt_weak (pt_not ha) fun s H Q ⟨r, G, A, S, hr, hR, q⟩ => ?_
  refine rt_bnd hr hR q (fun _ _ z => z) fun G1 A1 H1 k S1 a1 r1 R1 q1 => ?_
  exact q1 G1 A1 H1 a1 R1
/-- as values -/
def eAnd2 (f g : FEx) : FEx := fun r => bnd (f r) fun d => bnd (fun S => opt (truD (vw S d)) S) fun k => if k = true then g r else ret d
def eOr2 (f g : FEx) : FEx := fun r => bnd (f r) fun d => bnd (fun S => opt (truD (vw S d)) S) fun k => if k = true then ret d else g r
def eNot1 (f : FEx) : FEx := fun r => bnd (f r) fun d => bnd (fun S => opt (truD (vw S d)) S) fun k => ret (.bl (!k))
theorem fe_one {op} (ha : FE X EE a fa) : FE X EE (.BoolOp op [a] pos) fa := pe_one ha
theorem fe_and (ha : FE X EE a fa) (hb : FE X EE (.BoolOp .And (b :: rest) pos) fb) : FE X EE (.BoolOp .And (a :: b :: rest) pos) (eAnd2 fa fb) := by
  refine pe_weak (pe_andT ha hb) fun s H Q ⟨r, G, A, S, hr, hR, q⟩ => ?_
  refine re_bnd hr hR q (fun _ _ z => z) fun G1 A1 H1 x d S1 a1 r1 R1 n1 q1 => ?_
  rw [post_bnd, post_opt] at q1
  obtain ⟨k, e, q1⟩ := q1
  refine ⟨k, tru_v R1 (R1.view n1) e, ?_⟩
  cases k with
  | true => exact iteT ⟨r, G1, A1, S1, r1, R1, post_on a1 q1 fun _ _ z => z.mono a1⟩
  | false => exact iteF (q1 G1 A1 H1 x a1 R1 n1)
theorem fe_or (ha : FE X EE a fa) (hb : FE X EE (.BoolOp .Or (b :: rest) pos) fb) : FE X EE (.BoolOp .Or (a :: b :: rest) pos) (eOr2 fa fb) := by
  refine pe_weak (pe_orT ha hb) fun s H Q ⟨r, G, A, S, hr, hR, q⟩ => ?_
  refine re_bnd hr hR q (fun _ _ z => z) fun G1 A1 H1 x d S1 a1 r1 R1 n1 q1 => ?_
  rw [post_bnd, post_opt] at q1
  obtain ⟨k, e, q1⟩ := q1
  refine ⟨k, tru_v R1 (R1.view n1) e, ?_⟩
  cases k with
  | true => exact iteT (q1 G1 A1 H1 x a1 R1 n1)
  | false => exact iteF ⟨r, G1, A1, S1, r1, R1, post_on a1 q1 fun _ _ z => z.mono a1⟩
theorem fe_not (ha : FE X EE a fa) : FE X EE (.UnaryOp .Not a pos) (eNot1 fa) := by
  refine pe_weak (pe_notT ha) fun s H Q ⟨r, G, A, S, hr, hR, q⟩ => ?_
  refine re_bnd hr hR q (fun _ _ z => z) fun G1 A1 H1 x d S1 a1 r1 R1 n1 q1 => ?_
  rw [post_bnd, post_opt] at q1
  obtain ⟨k, e, q1⟩ := q1
  exact ⟨k, tru_v R1 (R1.view n1) e, q1 G1 A1 H1 _ a1 R1 (.bl _)⟩
def eIf (t : FTx) (f g : FEx) : FEx := fun r => bnd (t r) fun k => if k = true then f r else g r
theorem fe_if (hc : FT X EE c ta) (ha : FE X EE a fa) (hb : FE X EE b fb) : FE X EE (.IfExp c a b pos) (eIf ta fa fb) := by
  refine pe_weak (pe_ifExp hc ha hb) fun s H Q ⟨r, G, A, S, hr, hR, q⟩ => ?_
  refine rt_bnd hr hR q (fun _ _ z => z) fun G1 A1 H1 k S1 a1 r1 R1 q1 => ?_
  cases k with
  | true => exact iteT ⟨r, G1, A1, S1, r1, R1, post_on a1 q1 fun _ _ z => z.mono a1⟩
  | false => exact iteF ⟨r, G1, A1, S1, r1, R1, post_on a1 q1 fun _ _ z => z.mono a1⟩

/-! ## one operand -/
def rD1 (K : PySem.W.Frag) (g : D → Option D) : V → Hp → VK → Prop := fun x H Q => ∃ G A S d z, Rel K A S G H ∧ Dv K G A H x d ∧ g d = some z ∧ ∀ G' H' v, Ex A G H A G' H' → Rel K A S G' H' → Dn K G' A v z → Q v H'
def eUn (g : D → Option D) (f : FEx) : FEx := fun r => bnd (f r) fun x => fun S => opt (g (vw S x)) S
theorem fe_un {op : UnaryOp} {g : D → Option D} (ho : UnR X (unaryOp op) (rD1 X.K g)) (ha : FE X EE a fa) : FE X EE (.UnaryOp op a pos) (eUn g fa) := by
  refine pe_weak (pe_un ho ha) fun s H Q ⟨r, G, A, S, hr, hR, q⟩ => ?_
  refine re_bnd hr hR q (fun _ _ z => z) fun G1 A1 H1 x d S1 a1 r1 R1 n1 q1 => ?_
  rw [post_opt] at q1
  obtain ⟨z, e, q1⟩ := q1
  exact ⟨G1, A1, S1, _, z, R1, R1.view n1, e, fun G3 H3 v a3 R3 n3 => q1 G3 A1 H3 v (a1.trans a3) R3 n3⟩

/-! ## argument lists, displays -/
variable {e : Expr} {es : List Expr} {fe : FEx} {fs : FAx}
def aNil : FAx := fun _ => ret []
def aCons (f : FEx) (g : FAx) : FAx := fun r => bnd (f r) fun x => bnd (g r) fun xs => ret (x :: xs)
theorem fa_nil : FA X EE [] aNil := by
  refine pa_weak pa_nil fun s H Q ⟨r, G, A, S, hr, hR, q⟩ => ?_
  exact q G A H [] Ex.refl hR .nil
theorem fa_cons (ha : FE X EE e fe) (hr : FA X EE es fs) (hs : starEach (e :: es) X.env = (false, eval e X.env) :: starEach es X.env := by rfl) : FA X EE (e :: es) (aCons fe fs) := by
  refine pa_weak (pa_cons ha hr hs) fun s H Q ⟨r, G, A, S, hr, hR, q⟩ => ?_
  refine re_bnd hr hR q (fun _ _ z => z) fun G1 A1 H1 x d S1 a1 r1 R1 n1 q1 => ?_
  refine ra_bnd r1 R1 q1 (fun _ _ z => z.mono a1) fun G2 A2 H2 y e S2 a2 r2 R2 n2 q2 => ?_
  exact q2 G2 A2 H2 _ (a1.trans a2) R2 (.cons (n1.mono a2.g a2.p) n2)
def few {α : Type} (xs : List α) : Option (List α) := if xs.length ≤ 1000000 then some xs else none
theorem few_eq {α : Type} {xs ys : List α} (h : few xs = some ys) : xs = ys ∧ xs.length ≤ sizeLine := by
  unfold few at h
  split at h
  · rename_i hl; cases h; exact ⟨rfl, small_line hl⟩
  · cases h
def eTup (g : FAx) : FEx := fun r => bnd (g r) fun xs => bnd (opt (few xs)) fun ys => ret (.tup ys)
def eLst (g : FAx) : FEx := fun r => bnd (g r) fun xs => bnd (opt (few xs)) fun ys => ret (.lst ys)
/-- a list that will change -/
def eNewL (g : FAx) : FEx := fun r => bnd (g r) fun xs => bnd (opt (few xs)) fun ys => fun S => .ok (.ref S.length) (S ++ [.lst ys])
theorem fe_tup {x1} (h : FA X EE es fs) : FE X EE (.Tuple es x1 pos) (eTup fs) := by
  refine pe_weak (pe_tupF h) fun s H Q ⟨r, G, A, S, hr, hR, q⟩ => ?_
  refine ra_bnd hr hR q (fun _ _ z => z) fun G1 A1 H1 x d S1 a1 r1 R1 n1 q1 => ?_
  rw [post_bnd, post_opt] at q1
  obtain ⟨ys, e, q1⟩ := q1
  obtain ⟨rfl, hl⟩ := few_eq e
  refine ⟨by rw [n1.length]; exact hl, fun p us hp => ?_⟩
  have ee := R1.exNew hp (.frz (tupO us) (.tup x))
  exact q1 _ A1 _ _ (a1.trans ee) (R1.new hp _) (.tup (.inl ⟨us, upd_same⟩) (n1.mono ee.g ee.p))
theorem fe_lst (h : FA X EE es fs) : FE X EE (.List es pos) (eLst fs) := by
  refine pe_weak (pe_lst h) fun s H Q ⟨r, G, A, S, hr, hR, q⟩ => ?_
  refine ra_bnd hr hR q (fun _ _ z => z) fun G1 A1 H1 x d S1 a1 r1 R1 n1 q1 => ?_
  rw [post_bnd, post_opt] at q1
  obtain ⟨ys, e, q1⟩ := q1
  obtain ⟨rfl, hl⟩ := few_eq e
  refine ⟨by rw [n1.length]; exact hl, fun p hp => ?_⟩
  have ee := R1.exNew hp (.lst x)
  exact q1 _ A1 _ _ (a1.trans ee) (R1.new hp _) (.lst (.inl (.of upd_same)) (n1.mono ee.g ee.p))
theorem fe_newL (h : FA X EE es fs) : FE X EE (.List es pos) (eNewL fs) := by
  refine pe_weak (pe_lst h) fun s H Q ⟨r, G, A, S, hr, hR, q⟩ => ?_
  refine ra_bnd hr hR q (fun _ _ z => z) fun G1 A1 H1 x d S1 a1 r1 R1 n1 q1 => ?_
  rw [post_bnd, post_opt] at q1
  obtain ⟨ys, e, q1⟩ := q1
  obtain ⟨rfl, hl⟩ := few_eq e
  refine ⟨by rw [n1.length]; exact hl, fun p hp => ?_⟩
  have R2 : Rel X.K (A1 ++ [p]) (S1 ++ [.lst d]) G1 (upd H1 p (.lst x)) := R1.alloc hp ⟨x, upd_same, n1.mono (Same.refl _) (Pre.app _ _)⟩
  refine q1 G1 (A1 ++ [p]) _ _ (a1.trans (R1.exAlloc hp _)) R2 (.ref ?_)
  rw [← R1.len]
  simp

/-! ## built-ins by values -/
inductive DvAll (K : PySem.W.Frag) (G : Hp) (A : List Addr) (H : Hp) : List V → List D → Prop
  | nil : DvAll K G A H [] []
  | cons {v : V} {vs : List V} {d : D} {ds : List D} : Dv K G A H v d → DvAll K G A H vs ds → DvAll K G A H (v :: vs) (d :: ds)
theorem Rel.views {K : PySem.W.Frag} {G H : Hp} {A : List Addr} {S : Sto} (q : Rel K A S G H) : ∀ {vs : List V} {ds : List D}, DnAll K G A vs ds → DvAll K G A H vs (ds.map (vw S))
  | _, _, .nil => .nil
  | _, _, .cons a b => .cons (q.view a) (q.views b)
def rDs (K : PySem.W.Frag) (g : List D → Option D) : List V → Hp → VK → Prop := fun xs H Q => ∃ G A S ds z, Rel K A S G H ∧ DvAll K G A H xs ds ∧ g ds = some z ∧ ∀ G' H' v, Ex A G H A G' H' → Rel K A S G' H' → Dn K G' A v z → Q v H'
def eCallP (g : List D → Option D) (f : FAx) : FEx := fun r => bnd (f r) fun xs => fun S => opt (g (xs.map (vw S))) S
theorem to_callp {g : List D → Option D} : ∀ s H Q, RE X EE (eCallP g fs) s H Q → tCB (rDs X.K g) (RA X EE fs) s H Q := by
  intro s H Q ⟨r, G, A, S, hr, hR, q⟩
  refine ra_bnd hr hR q (fun _ _ z => z) fun G1 A1 H1 x d S1 a1 r1 R1 n1 q1 => ?_
  rw [post_opt] at q1
  obtain ⟨z, e, q1⟩ := q1
  exact ⟨G1, A1, S1, _, z, R1, R1.views n1, e, fun G3 H3 v a3 R3 n3 => q1 G3 A1 H3 v (a1.trans a3) R3 n3⟩
theorem fe_callB {x : Str} {p : Pos} {id : String} {g : List D → Option D} (hc : CallR X (.builtin id) (rDs X.K g)) (hg : Gl X x) (hm : X.mg x = none) (hv : bootBuiltins x = some (.builtin id)) (ha : FA X EE (e :: es) fs) (hn : x ≠ "__name__" := by decide) (hdb : (x == ("__debug__" : Str)) = false := by decide)
    (he : starEach (e :: es) X.env = (false, eval e X.env) :: starEach es X.env := by rfl) (hpl : (backTo pos (starEach es X.env)).any (·.1) = false := by rfl) : FE X EE (.Call (.Name x p) (e :: es) [] pos) (eCallP g fs) :=
  pe_weak (pe_callB hc hg hm hv ha hn hdb he hpl) to_callp
theorem fe_callTy {x : Str} {p : Pos} {T : String} {g : List D → Option D} (hc : CallR X (.type T) (rDs X.K g)) (hg : Gl X x) (hm : X.mg x = none) (hv : bootBuiltins x = some (.type T)) (ha : FA X EE (e :: es) fs) (hn : x ≠ "__name__" := by decide) (hdb : (x == ("__debug__" : Str)) = false := by decide)
    (he : starEach (e :: es) X.env = (false, eval e X.env) :: starEach es X.env := by rfl) (hpl : (backTo pos (starEach es X.env)).any (·.1) = false := by rfl) : FE X EE (.Call (.Name x p) (e :: es) [] pos) (eCallP g fs) :=
  pe_weak (pe_callTy hc hg hm hv ha hn hdb he hpl) to_callp
end
end FL
end

section
set_option Elab.async false
set_option linter.all false
set_option maxRecDepth 100000
set_option autoImplicit false
namespace FL
open PySem PySem.Spec PyProof.Rows L2


/-! ## looking at data -/
def D.int? : D → Option Int
  | .int i => some i
  | _ => none
def D.str? : D → Option Str
  | .str i => some i
  | _ => none
def D.lst? : D → Option (List D)
  | .lst i => some i
  | _ => none
def D.tup? : D → Option (List D)
  | .tup i => some i
  | _ => none
def D.dct? : D → Option (List (Key × D))
  | .dct i => some i
  | _ => none
def D.bl? : D → Option Bool
  | .bl i => some i
  | _ => none
theorem D.int?_eq {d : D} {i : Int} (h : d.int? = some i) : d = .int i := by cases d <;> first | (cases h; rfl) | cases h
theorem D.str?_eq {d : D} {i : Str} (h : d.str? = some i) : d = .str i := by cases d <;> first | (cases h; rfl) | cases h
theorem D.lst?_eq {d : D} {i : List D} (h : d.lst? = some i) : d = .lst i := by cases d <;> first | (cases h; rfl) | cases h
theorem D.tup?_eq {d : D} {i : List D} (h : d.tup? = some i) : d = .tup i := by cases d <;> first | (cases h; rfl) | cases h
theorem D.dct?_eq {d : D} {i : List (Key × D)} (h : d.dct? = some i) : d = .dct i := by cases d <;> first | (cases h; rfl) | cases h
theorem D.bl?_eq {d : D} {i : Bool} (h : d.bl? = some i) : d = .bl i := by cases d <;> first | (cases h; rfl) | cases h
def on1 {α β : Type} (f : D → Option α) (d : D) (k : α → Option β) : Option β := match f d with
  | some a => k a
  | none => none
def on2 {α β γ : Type} (f : D → Option α) (g : D → Option β) (d e : D) (k : α → β → Option γ) : Option γ := match f d with
  | some a => match g e with
    | some b => k a b
    | none => none
  | none => none
def alt {α : Type} : Option α → Option α → Option α
  | some a, _ => some a
  | none, b => b
theorem on1_eq {α β : Type} {f : D → Option α} {d : D} {k : α → Option β} {z : β} (h : on1 f d k = some z) : ∃ a, f d = some a ∧ k a = some z := by
  unfold on1 at h
  cases e : f d with
  | none => rw [e] at h; cases h
  | some a => rw [e] at h; exact ⟨a, rfl, h⟩
theorem on2_eq {α β γ : Type} {f : D → Option α} {g : D → Option β} {d e : D} {k : α → β → Option γ} {z : γ} (h : on2 f g d e k = some z) : ∃ a b, f d = some a ∧ g e = some b ∧ k a b = some z := by
  unfold on2 at h
  cases e1 : f d with
  | none => rw [e1] at h; cases h
  | some a =>
    cases e2 : g e with
    | none => rw [e1, e2] at h; cases h
    | some b => rw [e1, e2] at h; exact ⟨a, b, rfl, rfl, h⟩
theorem alt_eq {α : Type} {a b : Option α} {z : α} (h : alt a b = some z) : a = some z ∨ b = some z := by
  cases a with
  | none => exact .inr h
  | some x => exact .inl h

/-! ## plain data -/
mutual
def toPy : D → Option PyData
  | .non => some .none
  | .bl b => some (.bool b)
  | .int i => some (.int i)
  | .str x => some (.str x)
  | .lst xs => (toPys xs).map .list
  | .tup xs => (toPys xs).map .tuple
  | .dct _ => none
  | .ref _ => none
def toPys : List D → Option (List PyData)
  | [] => some []
  | d :: ds => match toPy d, toPys ds with
    | some p, some ps => some (p :: ps)
    | _, _ => none
end
section
variable {K : PySem.W.Frag} {G H : Hp} {A : List Addr} {S : Sto}
mutual
theorem dn_dp (e : Same G H) : ∀ (d : D) (v : V) (p : PyData), Dn K G A v d → toPy d = some p → Dp K H v p ∧ p.canLay0 = true
  | .non, _, _, h, q => by cases h; cases q; exact ⟨.non, rfl⟩
  | .bl b, _, _, h, q => by cases h; cases q; exact ⟨.bl b, rfl⟩
  | .int i, _, _, h, q => by cases h; cases q; exact ⟨.int i, rfl⟩
  | .str x, _, _, h, q => by cases h with | str _ o => cases q; exact ⟨.str x, o⟩
  | .lst ds, _, p, h, q => by
    cases h with
    | lst s t =>
      simp only [toPy] at q
      cases hp : toPys ds with
      | none => rw [hp] at q; cases q
      | some ps =>
        rw [hp] at q; cases q
        obtain ⟨h1, h2⟩ := dn_dps e ds _ ps t hp
        exact ⟨.lst (sql_same e s).sq h1, h2⟩
  | .tup ds, _, p, h, q => by
    cases h with
    | tup s t =>
      simp only [toPy] at q
      cases hp : toPys ds with
      | none => rw [hp] at q; cases q
      | some ps =>
        rw [hp] at q; cases q
        obtain ⟨h1, h2⟩ := dn_dps e ds _ ps t hp
        exact ⟨.tup (s.same e).sq h1, h2⟩
  | .dct _, _, _, _, q => by cases q
  | .ref _, _, _, _, q => by cases q
theorem dn_dps (e : Same G H) : ∀ (ds : List D) (vs : List V) (ps : List PyData), DnAll K G A vs ds → toPys ds = some ps → DpAll K H vs ps ∧ PyData.canLayAll0 ps = true
  | [], _, _, h, q => by cases h; cases q; exact ⟨.nil, rfl⟩
  | d :: ds, _, ps, h, q => by
    cases h with
    | cons a b =>
      simp only [toPys] at q
      cases h1 : toPy d with
      | none => rw [h1] at q; cases q
      | some p =>
        cases h2 : toPys ds with
        | none => rw [h1, h2] at q; cases q
        | some r =>
          rw [h1, h2] at q; cases q
          obtain ⟨x1, x2⟩ := dn_dp e d _ p a h1
          obtain ⟨y1, y2⟩ := dn_dps e ds _ r b h2
          exact ⟨.cons x1 y1, by simp [PyData.canLayAll0, x2, y2]⟩
end
theorem dv_dp (R : Rel K A S G H) {d : D} {v : V} {p : PyData} (h : Dv K G A H v d) (q : toPy d = some p) : Dp K H v p ∧ p.canLay0 = true := by
  cases h with
  | of h => exact dn_dp R.sub d v p h q
  | @lst a vs ds e t =>
    simp only [toPy] at q
    cases hp : toPys ds with
    | none => rw [hp] at q; cases q
    | some ps =>
      rw [hp] at q; cases q
      obtain ⟨h1, h2⟩ := dn_dps R.sub ds _ ps t hp
      exact ⟨.lst (.of e) h1, h2⟩
  | dct e t => cases q
end
/-- plain data of small depth -/
def pyD (d : D) : Option PyData := (toPy d).bind fun p => if p.depth ≤ 64 then some p else none
theorem pyD_eq {d : D} {p : PyData} (h : pyD d = some p) : toPy d = some p ∧ p.depth ≤ 64 := by
  unfold pyD at h
  cases e : toPy d with
  | none => rw [e] at h; cases h
  | some q =>
    rw [e] at h
    simp only [Option.bind_some] at h
    split at h
    · rename_i hd; cases h; exact ⟨rfl, hd⟩
    · cases h
theorem dv_shaped {K : PySem.W.Frag} {G H : Hp} {A : List Addr} {S : Sto} (R : Rel K A S G H) {d : D} {v : V} {p : PyData} (h : Dv K G A H v d) (q : pyD d = some p) : Dp K H v p ∧ SeqAt.shaped p = true := by
  obtain ⟨e, hd⟩ := pyD_eq q
  obtain ⟨a, b⟩ := dv_dp R h e
  exact ⟨a, by simp [SeqAt.shaped, b, hd]⟩

section
variable {X : Cx}
/-! ## arithmetic -/
def small64 (i : Int) : Bool := decide (-(2 ^ 64) < i) && decide (i < 2 ^ 64)
theorem small64_eq {i : Int} (h : small64 i = true) : -(2 ^ 64) < i ∧ i < 2 ^ 64 := by
  unfold small64 at h
  simp at h
  exact h
theorem strOk_app {x y : Str} (h : PyData.strOk x = true) (k : PyData.strOk y = true) : PyData.strOk (x ++ y) = true := by
  unfold PyData.strOk at *
  rw [Array.all_eq_true'] at *
  intro c hc
  have hc : c ∈ x.cps ++ y.cps := hc
  rcases Array.mem_append.mp hc with q | q
  · exact h c q
  · exact k c q
def addD (d e : D) : Option D := alt (on2 D.int? D.int? d e fun i j => some (.int (i + j)))
  (alt (on2 D.str? D.str? d e fun x y => cap (x.length + y.length) (.str (x ++ y)))
  (alt (on2 D.lst? D.lst? d e fun xs ys => cap (xs.length + ys.length) (.lst (xs ++ ys)))
  (on2 D.tup? D.tup? d e fun xs ys => cap (xs.length + ys.length) (.tup (xs ++ ys)))))

theorem rd_lst {pins : List (Addr × Obj)} {s : Shared} {σ : L2.St} {H : Hp} {l : Addr} {xs : List V} (I : Inv X pins σ H s) (h : LAt X.K H l xs) :
    xs.length ≤ sizeLine ∧ ∃ (its : List Value) (n : Nat), Vals xs its ∧ xs.length = its.length ∧ s.heap.get? l = some { cls := .type "list", data := .seq its.toArray n } := by
  rcases h with h | ⟨its, n, h1, h2, h3⟩
  · obtain ⟨z, its, n, r, e⟩ := h.ok I.hok
    exact ⟨z, its, n, r, r.length, e⟩
  · refine ⟨?_, its.toList, n, h3, h3.length, I.kIn _ _ h1⟩
    rw [h3.length, Array.length_toList]
    exact h2
def rCatR (K : PySem.W.Frag) : R2 := fun x y H Q => ∃ l b xs zs, x = .ref l ∧ y = .ref b ∧ LAt K H l xs ∧ LAt K H b zs ∧ xs.length + zs.length ≤ sizeLine ∧ ∀ p, H p = none → Q (.ref p) (upd H p (.lst (xs ++ zs)))
theorem op_catR : OpR X (binaryOp .Add) (rCatR X.K) := by
  intro pins s σ H x y v u Q I rx ry ⟨l, b, xs, zs, ex, ey, hH, hB, hz, q⟩
  subst ex ey
  cases rx
  cases ry
  obtain ⟨z, its, n, r, hl, e⟩ := rd_lst I hH
  obtain ⟨z2, its2, n2, r2, hl2, e2⟩ := rd_lst I hB
  refine PySem.P.add_list e e2 ?_ (by rw [List.size_toArray, List.size_toArray]; omega)
  rw [show its.toArray ++ its2.toArray = (its ++ its2).toArray by simp]
  exact ⟨.ref _, _, I.lnew (t' := s.toks) (r.append r2) (by rw [List.length_append]; omega), rfl, q _ I.fresh⟩
/-- a new list, a new tuple of such things -/
theorem new_lst {K : PySem.W.Frag} {G H : Hp} {A : List Addr} {S : Sto} {vs : List V} {ds : List D} {p : Addr} {Q : VK} (R : Rel K A S G H) (t : DnAll K G A vs ds) (hp : H p = none)
    (q : ∀ G' H' v, Ex A G H A G' H' → Rel K A S G' H' → Dn K G' A v (.lst ds) → Q v H') : Q (.ref p) (upd H p (.lst vs)) :=
  q (upd G p (.lst vs)) _ _ (R.exNew hp _) (R.new hp _) (.lst (.inl (.of upd_same)) (t.mono (upd_same_of (R.free hp)) (Pre.refl _)))
theorem new_tup {K : PySem.W.Frag} {G H : Hp} {A : List Addr} {S : Sto} {vs : List V} {ds : List D} {Q : VK} (R : Rel K A S G H) (t : DnAll K G A vs ds)
    (q : ∀ G' H' v, Ex A G H A G' H' → Rel K A S G' H' → Dn K G' A v (.tup ds) → Q v H') : rNewT vs H Q := fun p us hp =>
  q (upd G p _) _ _ (R.exNew hp _) (R.new hp _) (.tup (.inl ⟨us, upd_same⟩) (t.mono (upd_same_of (R.free hp)) (Pre.refl _)))
/-- a tuple that stands already -/
theorem Dv.tupN {K : PySem.W.Frag} {G H : Hp} {A : List Addr} {v : V} {ds : List D} (h : Dv K G A H v (.tup ds)) : Dn K G A v (.tup ds) := by
  cases h with | of h => exact h
theorem op_addD : OpR X (binaryOp .Add) (rD2 X.K addD) := by
  intro pins s σ H x y v u Q I rx ry ⟨G, A, S, d, e, z, R, hd, he, hg, q⟩
  rcases alt_eq hg with hg | hg
  · obtain ⟨i, j, h1, h2, hg⟩ := on2_eq hg
    cases D.int?_eq h1
    cases D.int?_eq h2
    cases hg
    exact op_add pins s σ H x y v u Q I rx ry ⟨i, j, hd.intE, he.intE, q G H _ Ex.refl R (.int _)⟩
  rcases alt_eq hg with hg | hg
  · obtain ⟨i, j, h1, h2, hg⟩ := on2_eq hg
    cases D.str?_eq h1
    cases D.str?_eq h2
    obtain ⟨e1, o1⟩ := hd.strE
    obtain ⟨e2, o2⟩ := he.strE
    obtain ⟨rfl, hl⟩ := cap_eq hg
    exact op_add_str pins s σ H x y v u Q I rx ry ⟨i, j, e1, e2, small_line hl, q G H _ Ex.refl R (.str _ (strOk_app o1 o2))⟩
  rcases alt_eq hg with hg | hg
  · obtain ⟨xs, ys, h1, h2, hg⟩ := on2_eq hg
    cases D.lst?_eq h1
    cases D.lst?_eq h2
    obtain ⟨rfl, hl⟩ := cap_eq hg
    obtain ⟨a, vs, e1, s1, t1⟩ := hd.lstE R
    obtain ⟨b, ws, e2, s2, t2⟩ := he.lstE R
    exact op_catR pins s σ H x y v u Q I rx ry ⟨a, b, vs, ws, e1, e2, s1, s2, by rw [t1.length, t2.length]; exact small_line hl, fun p hp => new_lst R (t1.append t2) hp q⟩
  · obtain ⟨xs, ys, h1, h2, hg⟩ := on2_eq hg
    cases D.tup?_eq h1
    cases D.tup?_eq h2
    obtain ⟨rfl, hl⟩ := cap_eq hg
    obtain ⟨a, vs, e1, s1, t1⟩ := hd.tupE R
    obtain ⟨b, ws, e2, s2, t2⟩ := he.tupE R
    refine op_catF pins s σ H x y v u Q I rx ry ⟨a, b, vs, ws, e1, e2, s1.sq, s2.sq, by rw [t1.length, t2.length]; exact small_line hl, fun e0 => ?_, fun _ e0 => ?_, fun _ _ => new_tup R (t1.append t2) q⟩
    · subst e0
      cases t1
      rw [← e2]
      exact q G H _ Ex.refl R he.tupN
    · subst e0
      cases t2
      rw [← e1]
      refine q G H _ Ex.refl R ?_
      rw [List.append_nil]
      exact hd.tupN
def guard' {α : Type} (b : Bool) (a : α) : Option α := if b = true then some a else none
theorem guard_eq {α : Type} {b : Bool} {a c : α} (h : guard' b a = some c) : a = c ∧ b = true := by
  unfold guard' at h
  split at h
  · rename_i hb; cases h; exact ⟨rfl, hb⟩
  · cases h
/-- two ints by a rule -/
def ii (c : Int → Int → Bool) (f : Int → Int → D) (d e : D) : Option D := on2 D.int? D.int? d e fun i j => guard' (c i j) (f i j)
theorem ii_eq {c : Int → Int → Bool} {f : Int → Int → D} {d e z : D} (h : ii c f d e = some z) : ∃ i j, d = .int i ∧ e = .int j ∧ c i j = true ∧ z = f i j := by
  obtain ⟨i, j, h1, h2, hg⟩ := on2_eq h
  obtain ⟨e, hc⟩ := guard_eq hg
  exact ⟨i, j, D.int?_eq h1, D.int?_eq h2, hc, e.symm⟩
def subD : D → D → Option D := ii (fun _ _ => true) fun i j => .int (i - j)
theorem op_subD : OpR X (binaryOp .Sub) (rD2 X.K subD) := by
  intro pins s σ H x y v u Q I rx ry ⟨G, A, S, d, e, z, R, hd, he, hg, q⟩
  obtain ⟨i, j, rfl, rfl, _, rfl⟩ := ii_eq hg
  exact op_sub pins s σ H x y v u Q I rx ry ⟨i, j, hd.intE, he.intE, q G H _ Ex.refl R (.int _)⟩
def modD : D → D → Option D := ii (fun _ j => decide (0 < j)) fun i j => .int (i % j)
theorem op_modD : OpR X (binaryOp .Mod) (rD2 X.K modD) := by
  intro pins s σ H x y v u Q I rx ry ⟨G, A, S, d, e, z, R, hd, he, hg, q⟩
  obtain ⟨i, j, rfl, rfl, hc, rfl⟩ := ii_eq hg
  exact op_mod pins s σ H x y v u Q I rx ry ⟨i, j, hd.intE, he.intE, of_decide_eq_true hc, q G H _ Ex.refl R (.int _)⟩
def fdivD : D → D → Option D := ii (fun _ j => decide (0 < j ∧ j < 1073741824)) fun i j => .int (i / j)
theorem op_fdivD : OpR X (binaryOp .FloorDiv) (rD2 X.K fdivD) := by
  intro pins s σ H x y v u Q I rx ry ⟨G, A, S, d, e, z, R, hd, he, hg, q⟩
  obtain ⟨i, j, rfl, rfl, hc, rfl⟩ := ii_eq hg
  exact op_fdiv pins s σ H x y v u Q I rx ry ⟨i, j, hd.intE, he.intE, (of_decide_eq_true hc : 0 < j ∧ j < 1073741824), q G H _ Ex.refl R (.int _)⟩
def powD : D → D → Option D := ii (fun i j => decide (0 ≤ j ∧ j ≤ 1000 ∧ i.natAbs < 18446744073709551616)) fun i j => .int (i ^ j.toNat)
theorem op_powD : OpR X (binaryOp .Pow) (rD2 X.K powD) := by
  intro pins s σ H x y v u Q I rx ry ⟨G, A, S, d, e, z, R, hd, he, hg, q⟩
  obtain ⟨i, j, rfl, rfl, hc, rfl⟩ := ii_eq hg
  obtain ⟨h1, h2, h3⟩ := of_decide_eq_true hc
  exact op_pow pins s σ H x y v u Q I rx ry ⟨i, j, hd.intE, he.intE, ⟨h1, by omega, h3⟩, q G H _ Ex.refl R (.int _)⟩
def negD (d : D) : Option D := on1 D.int? d fun i => some (.int (-i))
theorem un_negD : UnR X (unaryOp .USub) (rD1 X.K negD) := by
  intro pins s σ H x v Q I rx ⟨G, A, S, d, z, R, hd, hg, q⟩
  obtain ⟨i, h1, hg⟩ := on1_eq hg
  cases D.int?_eq h1
  cases hg
  exact un_neg pins s σ H x v Q I rx ⟨i, hd.intE, q G H _ Ex.refl R (.int _)⟩

/-! ## comparisons -/
def eqD : D → D → Option D := fun d e => match pyD d, pyD e with
  | some p, some r => some (.bl (PyData.eqv p r))
  | _, _ => none
def neD : D → D → Option D := fun d e => match pyD d, pyD e with
  | some p, some r => some (.bl (!PyData.eqv p r))
  | _, _ => none
theorem op_eqDD (hu : X.A.units + 64 < cLine) : OpR X (compareOp .Eq) (rD2 X.K eqD) := by
  intro pins s σ H x y v u Q I rx ry ⟨G, A, S, d, e, z, R, hd, he, hg, q⟩
  unfold eqD at hg
  cases h1 : pyD d with
  | none => rw [h1] at hg; cases hg
  | some p =>
    cases h2 : pyD e with
    | none => rw [h1, h2] at hg; cases hg
    | some r =>
      rw [h1, h2] at hg; cases hg
      obtain ⟨a1, b1⟩ := dv_shaped R hd h1
      obtain ⟨a2, b2⟩ := dv_shaped R he h2
      exact op_eqD hu pins s σ H x y v u Q I rx ry ⟨p, r, a1, a2, b1, b2, q G H _ Ex.refl R (.bl _)⟩
theorem op_neDD (hu : X.A.units + 64 < cLine) : OpR X (compareOp .NotEq) (rD2 X.K neD) := by
  intro pins s σ H x y v u Q I rx ry ⟨G, A, S, d, e, z, R, hd, he, hg, q⟩
  unfold neD at hg
  cases h1 : pyD d with
  | none => rw [h1] at hg; cases hg
  | some p =>
    cases h2 : pyD e with
    | none => rw [h1, h2] at hg; cases hg
    | some r =>
      rw [h1, h2] at hg; cases hg
      obtain ⟨a1, b1⟩ := dv_shaped R hd h1
      obtain ⟨a2, b2⟩ := dv_shaped R he h2
      exact op_neD hu pins s σ H x y v u Q I rx ry ⟨p, r, a1, a2, b1, b2, q G H _ Ex.refl R (.bl _)⟩
def ltD (d e : D) : Option D := alt (on2 D.int? D.int? d e fun i j => some (.bl (decide (i < j)))) (on2 D.str? D.str? d e fun i j => some (.bl (decide (i.cps.toList < j.cps.toList))))
theorem op_ltD : OpR X (compareOp .Lt) (rD2 X.K ltD) := by
  intro pins s σ H x y v u Q I rx ry ⟨G, A, S, d, e, z, R, hd, he, hg, q⟩
  rcases alt_eq hg with hg | hg
  · obtain ⟨i, j, h1, h2, hg⟩ := on2_eq hg
    cases D.int?_eq h1
    cases D.int?_eq h2
    cases hg
    exact op_lt pins s σ H x y v u Q I rx ry ⟨i, j, hd.intE, he.intE, q G H _ Ex.refl R (.bl _)⟩
  · obtain ⟨i, j, h1, h2, hg⟩ := on2_eq hg
    cases D.str?_eq h1
    cases D.str?_eq h2
    cases hg
    exact op_lt_str pins s σ H x y v u Q I rx ry ⟨i, j, hd.strE.1, he.strE.1, q G H _ Ex.refl R (.bl _)⟩
def leD (d e : D) : Option D := alt (on2 D.int? D.int? d e fun i j => some (.bl (decide (i ≤ j)))) (on2 D.str? D.str? d e fun i j => some (.bl (!decide (j.cps.toList < i.cps.toList))))
theorem op_leD : OpR X (compareOp .LtE) (rD2 X.K leD) := by
  intro pins s σ H x y v u Q I rx ry ⟨G, A, S, d, e, z, R, hd, he, hg, q⟩
  rcases alt_eq hg with hg | hg
  · obtain ⟨i, j, h1, h2, hg⟩ := on2_eq hg
    cases D.int?_eq h1
    cases D.int?_eq h2
    cases hg
    exact op_le pins s σ H x y v u Q I rx ry ⟨i, j, hd.intE, he.intE, q G H _ Ex.refl R (.bl _)⟩
  · obtain ⟨i, j, h1, h2, hg⟩ := on2_eq hg
    cases D.str?_eq h1
    cases D.str?_eq h2
    cases hg
    exact op_le_str pins s σ H x y v u Q I rx ry ⟨i, j, hd.strE.1, he.strE.1, q G H _ Ex.refl R (.bl _)⟩
def gtD (d e : D) : Option D := alt (on2 D.int? D.int? d e fun i j => some (.bl (decide (j < i)))) (on2 D.str? D.str? d e fun i j => some (.bl (decide (j.cps.toList < i.cps.toList))))
theorem op_gtD : OpR X (compareOp .Gt) (rD2 X.K gtD) := by
  intro pins s σ H x y v u Q I rx ry ⟨G, A, S, d, e, z, R, hd, he, hg, q⟩
  rcases alt_eq hg with hg | hg
  · obtain ⟨i, j, h1, h2, hg⟩ := on2_eq hg
    cases D.int?_eq h1
    cases D.int?_eq h2
    cases hg
    exact op_gt pins s σ H x y v u Q I rx ry ⟨i, j, hd.intE, he.intE, q G H _ Ex.refl R (.bl _)⟩
  · obtain ⟨i, j, h1, h2, hg⟩ := on2_eq hg
    cases D.str?_eq h1
    cases D.str?_eq h2
    cases hg
    exact op_gt_str pins s σ H x y v u Q I rx ry ⟨i, j, hd.strE.1, he.strE.1, q G H _ Ex.refl R (.bl _)⟩
def geD (d e : D) : Option D := alt (on2 D.int? D.int? d e fun i j => some (.bl (decide (j ≤ i)))) (on2 D.str? D.str? d e fun i j => some (.bl (!decide (i.cps.toList < j.cps.toList))))
theorem op_geD : OpR X (compareOp .GtE) (rD2 X.K geD) := by
  intro pins s σ H x y v u Q I rx ry ⟨G, A, S, d, e, z, R, hd, he, hg, q⟩
  rcases alt_eq hg with hg | hg
  · obtain ⟨i, j, h1, h2, hg⟩ := on2_eq hg
    cases D.int?_eq h1
    cases D.int?_eq h2
    cases hg
    exact op_ge pins s σ H x y v u Q I rx ry ⟨i, j, hd.intE, he.intE, q G H _ Ex.refl R (.bl _)⟩
  · obtain ⟨i, j, h1, h2, hg⟩ := on2_eq hg
    cases D.str?_eq h1
    cases D.str?_eq h2
    cases hg
    exact op_ge_str pins s σ H x y v u Q I rx ry ⟨i, j, hd.strE.1, he.strE.1, q G H _ Ex.refl R (.bl _)⟩
/-- is None -/
def D.non? : D → Bool
  | .non => true
  | _ => false
theorem D.non?_eq {d : D} : d.non? = true ↔ d = .non := by cases d <;> simp [D.non?]
def isND (d e : D) : Option D := guard' e.non? (.bl d.non?)
def isNND (d e : D) : Option D := guard' e.non? (.bl (!d.non?))
theorem dv_non {K : PySem.W.Frag} {G H : Hp} {A : List Addr} {v : V} {d : D} (h : Dv K G A H v d) : (v = .non ↔ d = .non) := by
  cases h with
  | of h => cases h <;> simp
  | lst e t => simp
  | dct e t => simp
theorem op_isND : OpR X (compareOp .Is) (rD2 X.K isND) := by
  intro pins s σ H x y v u Q I rx ry ⟨G, A, S, d, e, z, R, hd, he, hg, q⟩
  obtain ⟨rfl, hc⟩ := guard_eq hg
  have hn := dv_non hd
  have hy := (dv_non he).mpr (D.non?_eq.mp hc)
  have hb : d.non? = decide (x = .non) := by
    by_cases hx : x = .non
    · rw [decide_eq_true hx]; exact D.non?_eq.mpr (hn.mp hx)
    · rw [decide_eq_false hx]
      cases hq : d.non? with
      | false => rfl
      | true => exact absurd (hn.mpr (D.non?_eq.mp hq)) hx
  rw [hb] at q
  exact op_isN pins s σ H x y v u Q I rx ry ⟨hy, q G H _ Ex.refl R (.bl _)⟩
theorem op_isNND : OpR X (compareOp .IsNot) (rD2 X.K isNND) := by
  intro pins s σ H x y v u Q I rx ry ⟨G, A, S, d, e, z, R, hd, he, hg, q⟩
  obtain ⟨rfl, hc⟩ := guard_eq hg
  have hn := dv_non hd
  have hy := (dv_non he).mpr (D.non?_eq.mp hc)
  have hb : d.non? = decide (x = .non) := by
    by_cases hx : x = .non
    · rw [decide_eq_true hx]; exact D.non?_eq.mpr (hn.mp hx)
    · rw [decide_eq_false hx]
      cases hq : d.non? with
      | false => rfl
      | true => exact absurd (hn.mpr (D.non?_eq.mp hq)) hx
  rw [hb] at q
  exact op_notN pins s σ H x y v u Q I rx ry ⟨hy, q G H _ Ex.refl R (.bl _)⟩
end
end FL
end

section
set_option Elab.async false
set_option linter.all false
set_option maxRecDepth 100000
set_option autoImplicit false
set_option maxHeartbeats 2000000
namespace FL
open PySem PySem.Spec PyProof.Rows L2

section
variable {X : Cx}
theorem DnAll.rep {K : PySem.W.Frag} {G : Hp} {A : List Addr} {vs : List V} {ds : List D} (h : DnAll K G A vs ds) : ∀ k : Nat, DnAll K G A (List.replicate k vs).flatten (List.replicate k ds).flatten
  | 0 => .nil
  | k + 1 => by
    rw [List.replicate_succ, List.replicate_succ, List.flatten_cons, List.flatten_cons]
    exact h.append (DnAll.rep h k)
def mulD (d e : D) : Option D := alt (ii (fun i j => small64 i || small64 j) (fun i j => .int (i * j)) d e)
  (alt (on2 D.tup? D.int? d e fun xs k => guard' (decide (xs ≠ [] ∧ xs.length ≤ 1000 ∧ -1000 ≤ k ∧ k ≤ 1000)) (.tup (List.replicate k.toNat xs).flatten))
  (on2 D.lst? D.int? d e fun xs k => guard' (decide (xs.length ≤ 1000 ∧ -1000 ≤ k ∧ k ≤ 1000)) (.lst (List.replicate k.toNat xs).flatten)))

def rRepR (K : PySem.W.Frag) : R2 := fun x y H Q => ∃ l k xs, x = .ref l ∧ y = .int k ∧ LAt K H l xs ∧ -1000 ≤ k ∧ k ≤ 1000 ∧ xs.length ≤ 1000 ∧ ∀ p, H p = none → Q (.ref p) (upd H p (.lst (List.replicate k.toNat xs).flatten))
theorem op_repR : OpR X (binaryOp .Mult) (rRepR X.K) := by
  intro pins s σ H x y v u Q I rx ry ⟨l, k, xs, ex, ey, hH, h1, h2, hz, q⟩
  have hlen : xs.length * k.toNat ≤ sizeLine := Nat.le_trans (Nat.mul_le_mul hz (by omega : k.toNat ≤ 1000)) (by decide)
  rcases (Classical.em (H l = some (.lst xs))) with hP | _
  · exact op_rep pins s σ H x y v u Q I rx ry ⟨l, k, xs, ex, ey, hP, by omega, by omega, hlen, q⟩
  · subst ex ey
    cases rx
    obtain ⟨t, rfl⟩ := ry
    obtain ⟨z, its, n, r, hl, e⟩ := rd_lst I hH
    have hlen' : its.toArray.size * k.toNat ≤ sizeLine := by rw [List.size_toArray, ← hl]; exact hlen
    have hcap : ¬ its.toArray.size * k.toNat > (2 ^ 63 - 1) / 8 := by
      have z2 : (sizeLine : Nat) ≤ (2 ^ 63 - 1) / 8 := by decide
      omega
    have hfit : ¬ (!Builtin.List.listFitsIndex k) = true := by
      rw [fitsIndex_both (by omega) (by omega)]
      exact Bool.false_ne_true
    have hlong : ¬ Builtin.List.listTooLong (its.toArray.size * k.toNat) = true := by
      rw [notLongL hlen']
      exact Bool.false_ne_true
    have f0 : ∀ m : Nat, List.foldl (fun x1 x2 => x1 ++ x2) #[] (List.replicate m its.toArray) = (List.replicate m its).flatten.toArray := size_rep its
    have hnew : List.foldl (fun x1 x2 => x1 ++ x2) #[] (List.replicate (if its.toArray.isEmpty = true then 0 else k.toNat) its.toArray) = (List.replicate k.toNat its).flatten.toArray := by
      rw [f0]
      cases its with
      | nil => simp
      | cons a r' => rw [if_neg (by simp)]
    refine wpAny_binaryOp_repeat_ref (T := "list") (U := "int") (by decide) ⟨_, e, rfl⟩ (fun s' => typeIs_int s' k t) noFill_list_mul F.fills_int_mul F.slot_int_rmul repeat_list F.slot_int_index.lookup
      (call_meets F.slot_int_rmul (typeIs_int s k t) F.entry_int_rmul (F.args_int_rmul_2 _ _) (int___rmul___int_list k t l its.toArray n) ⟨e, rfl, ⟨_, e, rfl⟩, ?_⟩)
    refine call_meets F.slot_list_mul ⟨_, e, rfl⟩ F.entry_list_mul (F.args_list_mul_2 _ _) (AutoListH.list___mul___list_int_3 l its.toArray n k t hfit hcap hlong) ⟨e, ?_⟩
    rw [hnew]
    exact ⟨.ref _, _, I.lnew (t' := s.toks) (r.rep k.toNat) (by rw [PyProof.Rows.lm_len_rep_flat, Nat.mul_comm]; exact hlen), rfl, q _ I.fresh⟩
theorem op_mulD : OpR X (binaryOp .Mult) (rD2 X.K mulD) := by
  intro pins s σ H x y v u Q I rx ry ⟨G, A, S, d, e, z, R, hd, he, hg, q⟩
  rcases alt_eq hg with hg | hg
  · obtain ⟨i, j, rfl, rfl, hc, rfl⟩ := ii_eq hg
    have hc' : CMul i j := by
      rcases Bool.or_eq_true_iff.mp hc with h | h
      · exact .inl (small64_eq h)
      · exact .inr (small64_eq h)
    exact op_mul pins s σ H x y v u Q I rx ry ⟨i, j, hd.intE, he.intE, hc', q G H _ Ex.refl R (.int _)⟩
  rcases alt_eq hg with hg | hg
  · obtain ⟨xs, k, h1, h2, hg⟩ := on2_eq hg
    cases D.tup?_eq h1
    cases D.int?_eq h2
    obtain ⟨rfl, hc⟩ := guard_eq hg
    obtain ⟨c1, c2, c3, c4⟩ := of_decide_eq_true hc
    obtain ⟨a, vs, e1, s1, t1⟩ := hd.tupE R
    have hvs : vs ≠ [] := fun z => by subst z; cases t1; exact c1 rfl
    refine op_repF pins s σ H x y v u Q I rx ry ⟨a, k, vs, e1, he.intE, s1.sq, hvs, c3, c4, by rw [t1.length]; exact c2, fun hk => ?_, new_tup R (t1.rep _) q⟩
    subst hk
    rw [← e1]
    refine q G H _ Ex.refl R ?_
    have ez : (List.replicate (1 : Int).toNat xs).flatten = xs := by simp [List.replicate]
    rw [ez]
    exact hd.tupN
  · obtain ⟨xs, k, h1, h2, hg⟩ := on2_eq hg
    cases D.lst?_eq h1
    cases D.int?_eq h2
    obtain ⟨rfl, hc⟩ := guard_eq hg
    obtain ⟨c2, c3, c4⟩ := of_decide_eq_true hc
    obtain ⟨a, vs, e1, s1, t1⟩ := hd.lstE R
    exact op_repR pins s σ H x y v u Q I rx ry ⟨a, k, vs, e1, he.intE, s1, c3, c4, by rw [t1.length]; exact c2, fun p hp => new_lst R (t1.rep _) hp q⟩

/-! ## in -/
def eqvAny (p : PyData) : List PyData → Bool
  | [] => false
  | r :: rs => PyData.eqv r p || eqvAny p rs
end
end FL
end

section
set_option Elab.async false
set_option linter.all false
set_option maxRecDepth 100000
set_option autoImplicit false
set_option maxHeartbeats 2000000
namespace FL
open PySem PySem.Spec PyProof.Rows L2
section
variable {X : Cx}
/-! ## in -/
def D.key? : D → Option Key
  | .int i => some (.inl i)
  | .str x => some (.inr x)
  | _ => none
theorem dv_key {K : PySem.W.Frag} {G H : Hp} {A : List Addr} {v : V} {d : D} {k : Key} (h : Dv K G A H v d) (e : d.key? = some k) : v = kV k := by
  cases d with
  | int i => cases e; exact h.intE
  | str i => cases e; exact h.strE.1
  | _ => cases e
def seqP : PyData → Option (List PyData)
  | .list xs => some xs
  | .tuple xs => some xs
  | _ => none
def inSeq (d e : D) : Option Bool := match pyD d, (pyD e).bind seqP with
  | some p, some ps => some (ps.any fun z => PyData.eqv z p)
  | _, _ => none
def lookK {α : Type} (kvs : List (Key × α)) (k : Key) : Option α := (kvs.find? fun kv => decide (kv.1 = k)).map (·.2)
theorem look_rel {K : PySem.W.Frag} {G : Hp} {A : List Addr} {k : Key} : ∀ {kvs : List (Key × V)} {kds : List (Key × D)}, DnKV K G A kvs kds →
    (∀ d, lookK kds k = some d → ∃ v, valV kvs k = some v ∧ Dn K G A v d) ∧ (lookK kds k = none → valV kvs k = none)
  | _, _, .nil => by exact ⟨fun d e => (by cases e), fun _ => rfl⟩
  | _, _, .cons (k := k') (v := v) (d := d') a b => by
    obtain ⟨h1, h2⟩ := look_rel (k := k) b
    by_cases hk : k' = k
    · subst hk
      constructor
      · intro d e
        simp [lookK] at e
        subst e
        exact ⟨v, by simp [valV], a⟩
      · intro e
        simp [lookK] at e
    · constructor
      · intro d e
        obtain ⟨v', e2, r⟩ := h1 d (by simpa [lookK, hk] using e)
        exact ⟨v', by simpa [valV, hk] using e2, r⟩
      · intro e
        have e' := h2 (by simpa [lookK, hk] using e)
        simpa [valV, hk] using e'
def inB (d e : D) : Option Bool := alt (inSeq d e) (alt (on2 D.str? D.str? d e fun x y => some (!(Builtin.Str.occurrences y x 0 y.length 1).isEmpty))
  (on2 D.key? D.dct? d e fun k kvs => some (lookK kvs k).isSome))
def inD (d e : D) : Option D := (inB d e).map .bl
def notInD (d e : D) : Option D := (inB d e).map fun b => .bl (!b)
theorem inSeq_eq {d e : D} {b : Bool} (h : inSeq d e = some b) : ∃ p r ps, pyD d = some p ∧ pyD e = some r ∧ (r = .list ps ∨ r = .tuple ps) ∧ b = ps.any fun z => PyData.eqv z p := by
  unfold inSeq at h
  cases e1 : pyD d with
  | none => rw [e1] at h; cases h
  | some p =>
    cases e2 : pyD e with
    | none => rw [e1, e2] at h; cases h
    | some r =>
      rw [e1, e2] at h
      cases r with
      | list ps => cases h; exact ⟨p, _, ps, rfl, rfl, .inl rfl, rfl⟩
      | tuple ps => cases h; exact ⟨p, _, ps, rfl, rfl, .inr rfl, rfl⟩
      | _ => cases h
theorem room_in {A : Around} {p : PyData} {ps : List PyData} (h : SeqAt.shaped p = true) (hu : A.units + 65 < cLine) : A.units + 1 + min (PyData.depthAll ps) p.depth < cLine := by
  have h1 := SeqAt.depth_of_shaped h
  have h2 : min (PyData.depthAll ps) p.depth ≤ p.depth := Nat.min_le_right _ _
  omega
theorem op_inDD (hu : X.A.units + 65 < cLine) : OpR X (compareOp .In) (rD2 X.K inD) := by
  intro pins s σ H x y v u Q I rx ry ⟨G, A, S, d, e, z, R, hd, he, hg, q⟩
  obtain ⟨b, hb, ez⟩ := Option.map_eq_some_iff.mp hg
  clear hg
  subst ez
  have fin := q G H _ Ex.refl R (.bl b)
  replace hb := alt_eq hb
  rcases hb with hb | hb
  · obtain ⟨p, r, ps, h1, h2, h3, rfl⟩ := inSeq_eq hb
    obtain ⟨a1, b1⟩ := dv_shaped R hd h1
    obtain ⟨a2, b2⟩ := dv_shaped R he h2
    obtain ⟨as, r1⟩ := Dp.reads I p x v a1 rx
    obtain ⟨bs, r2⟩ := Dp.reads I r y u a2 ry
    rcases h3 with rfl | rfl
    · exact SeqAt.in_list_reads r2 r1 (SeqAt.canLay_of_shaped b2) (SeqAt.canLay_of_shaped b1) (room_in b1 hu) ⟨.bl _, H, I, rfl, fin⟩
    · exact SeqAt.in_tuple_reads r2 r1 (SeqAt.canLay_of_shaped b2) (SeqAt.canLay_of_shaped b1) (room_in b1 hu) ⟨.bl _, H, I, rfl, fin⟩
  replace hb := alt_eq hb
  rcases hb with hb | hb
  · obtain ⟨i, j, h1, h2, hk⟩ := on2_eq hb
    clear hb
    cases D.str?_eq h1
    cases D.str?_eq h2
    cases hk
    exact op_in_str pins s σ H x y v u Q I rx ry ⟨i, j, hd.strE.1, he.strE.1, fin⟩
  · obtain ⟨k, kvs, h1, h2, hk⟩ := on2_eq hb
    clear hb
    cases D.dct?_eq h2
    obtain ⟨a, vs, rfl, s2, t2⟩ := he.dctE R
    cases hk
    have ek := dv_key hd h1
    subst ek
    cases ry
    refine d_in (by omega) I (DGet.k (k := k) s2) rx fun s' I' => ?_
    have hs : (valV vs k).isSome = (lookK kvs k).isSome := by
      cases hl : lookK kvs k with
      | none => rw [(look_rel t2).2 hl]; rfl
      | some d => obtain ⟨v, ev, _⟩ := (look_rel t2).1 d hl; rw [ev]; rfl
    rw [hs]
    exact ⟨.bl _, H, I', rfl, fin⟩
theorem op_notInDD (hu : X.A.units + 65 < cLine) : OpR X (compareOp .NotIn) (rD2 X.K notInD) := by
  intro pins s σ H x y v u Q I rx ry ⟨G, A, S, d, e, z, R, hd, he, hg, q⟩
  obtain ⟨b, hb, ez⟩ := Option.map_eq_some_iff.mp hg
  clear hg
  subst ez
  have fin := q G H _ Ex.refl R (.bl (!b))
  replace hb := alt_eq hb
  rcases hb with hb | hb
  · obtain ⟨p, r, ps, h1, h2, h3, rfl⟩ := inSeq_eq hb
    obtain ⟨a1, b1⟩ := dv_shaped R hd h1
    obtain ⟨a2, b2⟩ := dv_shaped R he h2
    obtain ⟨as, r1⟩ := Dp.reads I p x v a1 rx
    obtain ⟨bs, r2⟩ := Dp.reads I r y u a2 ry
    rcases h3 with rfl | rfl
    · exact SeqAt.notIn_list_reads r2 r1 (SeqAt.canLay_of_shaped b2) (SeqAt.canLay_of_shaped b1) (room_in b1 hu) ⟨.bl _, H, I, rfl, fin⟩
    · exact SeqAt.notIn_tuple_reads r2 r1 (SeqAt.canLay_of_shaped b2) (SeqAt.canLay_of_shaped b1) (room_in b1 hu) ⟨.bl _, H, I, rfl, fin⟩
  replace hb := alt_eq hb
  rcases hb with hb | hb
  · obtain ⟨i, j, h1, h2, hk⟩ := on2_eq hb
    clear hb
    cases D.str?_eq h1
    cases D.str?_eq h2
    cases hk
    exact op_notin_str pins s σ H x y v u Q I rx ry ⟨i, j, hd.strE.1, he.strE.1, fin⟩
  · obtain ⟨k, kvs, h1, h2, hk⟩ := on2_eq hb
    clear hb
    cases D.dct?_eq h2
    obtain ⟨a, vs, rfl, s2, t2⟩ := he.dctE R
    cases hk
    have ek := dv_key hd h1
    subst ek
    cases ry
    refine d_notIn (by omega) I (DGet.k (k := k) s2) rx fun s' I' => ?_
    have hs : (valV vs k).isSome = (lookK kvs k).isSome := by
      cases hl : lookK kvs k with
      | none => rw [(look_rel t2).2 hl]; rfl
      | some d => obtain ⟨v, ev, _⟩ := (look_rel t2).1 d hl; rw [ev]; rfl
    rw [hs]
    exact ⟨.bl _, H, I', rfl, fin⟩

/-! ## x[i] -/
theorem atI_rel {K : PySem.W.Frag} {G : Hp} {A : List Addr} {vs : List V} {ds : List D} {i : Int} {d : D} (t : DnAll K G A vs ds) (h : atI ds i = some d) : ∃ v, atI vs i = some v ∧ Dn K G A v d := by
  unfold atI at h ⊢
  rw [t.length]
  cases e : ixN ds.length i with
  | none => rw [e] at h; cases h
  | some j =>
    rw [e] at h
    exact t.get h
theorem strOk_one {x : Str} {c : Nat} (h : PyData.strOk x = true) (hc : c ∈ x.cps.toList) : PyData.strOk ⟨#[c]⟩ = true := by
  unfold PyData.strOk at *
  rw [Array.all_eq_true'] at *
  intro b hb
  have : b = c := by simpa using hb
  subst this
  exact h b (by simpa using hc)
theorem sub_tail {prog : Program} {w : World} {A : Around} {E : Value → Shared → Prop} {s : Shared} {value slice : Expr} {o i : Value} {T id : String} {Q : Value → Shared → Prop} (hT : s.TypeIs o T)
    (hl : typeLookup (.type T) "__getitem__" = pure (some (.builtin id))) (h : wpAny (model prog w) A (getItem o i) Q E s) (hs : subscripted slice false o i = operate [o, i] (getItem o i)) :
    wpAny (model prog w) A (subscriptTail value slice o i) Q E s := by
  unfold subscriptTail
  refine wpAny_bind ?_
  rw [getitemInPython_of_ne hT.not_modules]
  refine wpAny_bind (wpAny_specialOf hT hl ?_)
  have fin : wpAny (model prog w) A (subscripted slice false o i) (fun r s' => wpAny (model prog w) A (letTemporaryGo value o r >>= fun _ => pure r) Q E s') E s := by
    rw [hs]
    exact wpAny_operating (wpAny_mono h (fun r s' h' => wpAny_bind (wpAny_letTemporaryGo (wpAny_pure h'))) fun _ _ x => x)
  first
    | exact wpAny_pure (wpAny_bind fin)
    | exact wpAny_bind (wpAny_pure (wpAny_bind fin))
    | exact wpAny_pure fin
def ixD (d e : D) : Option D := alt (on2 D.lst? D.int? d e fun xs i => atI xs i) (alt (on2 D.tup? D.int? d e fun xs i => atI xs i)
  (alt (on2 D.str? D.int? d e fun x i => if x.length ≤ 1000000 then (atI x.cps.toList i).map fun c => .str ⟨#[c]⟩ else none) (on2 D.dct? D.key? d e fun kvs k => lookK kvs k)))
theorem atI_mem {α : Type} {xs : List α} {i : Int} {a : α} (h : atI xs i = some a) : a ∈ xs := by
  obtain ⟨j, _, h2, _⟩ := atI_get h
  exact List.mem_of_getElem? h2
theorem ix_D (hu : X.A.units + 65 < cLine) : IxR X (rD2 X.K ixD) := by
  intro value slice pins s σ H x y v u Q I rx ry ⟨G, A, S, d, e, z, R, hd, he, hg, q⟩ hs
  replace hg := alt_eq hg
  rcases hg with hg | hg
  · obtain ⟨xs, i, h1, h2, hk⟩ := on2_eq hg
    clear hg
    cases D.lst?_eq h1
    cases D.int?_eq h2
    obtain ⟨a, vs, rfl, s1, t1⟩ := hd.lstE R
    obtain ⟨w, ew, nw⟩ := atI_rel t1 hk
    exact ix_list value slice pins s σ H _ y v u Q I rx ry ⟨a, vs, i, w, rfl, he.intE, s1.sq, ew, q G H w Ex.refl R nw⟩ hs
  replace hg := alt_eq hg
  rcases hg with hg | hg
  · obtain ⟨xs, i, h1, h2, hk⟩ := on2_eq hg
    clear hg
    cases D.tup?_eq h1
    cases D.int?_eq h2
    obtain ⟨a, vs, rfl, s1, t1⟩ := hd.tupE R
    obtain ⟨w, ew, nw⟩ := atI_rel t1 hk
    exact ix_tup value slice pins s σ H _ y v u Q I rx ry ⟨a, vs, i, w, rfl, he.intE, s1.sq, ew, q G H w Ex.refl R nw⟩ hs
  replace hg := alt_eq hg
  rcases hg with hg | hg
  · obtain ⟨xs, i, h1, h2, hk⟩ := on2_eq hg
    clear hg
    cases D.str?_eq h1
    cases D.int?_eq h2
    split at hk
    · rename_i hl
      obtain ⟨c, ec, rfl⟩ := Option.map_eq_some_iff.mp hk
      obtain ⟨rfl, o1⟩ := hd.strE
      exact ix_str value slice pins s σ H _ y v u Q I rx ry ⟨xs, i, c, rfl, he.intE, small_line hl, ec, q G H _ Ex.refl R (.str _ (strOk_one o1 (atI_mem ec)))⟩ hs
    · cases hk
  · obtain ⟨kvs, k, h1, h2, hk⟩ := on2_eq hg
    clear hg
    cases D.dct?_eq h1
    obtain ⟨a, vs, rfl, s1, t1⟩ := hd.dctE R
    have ek := dv_key he h2
    subst ek
    cases rx
    obtain ⟨w, ew, nw⟩ := (look_rel t1).1 z hk
    refine sub_tail (dict_typeIs I (DGet.k (k := k) s1)) PySem.F.slot_dict_getitem.lookup (d_getItem (by omega) I (v := w) (by have := DGet.k (k := k) s1; rw [ew] at this; exact this) ry fun w' s3 I3 rw' => ?_) hs
    exact ⟨w, H, I3, rw', q G H w Ex.refl R nw⟩
end
end FL
end

section
set_option Elab.async false
set_option linter.all false
set_option maxRecDepth 100000
set_option autoImplicit false
set_option maxHeartbeats 2000000
namespace FL
open PySem PySem.Spec PyProof.Rows L2
section
variable {X : Cx} {EE : XK} {e : Expr} {fe : FEx} {pos : Pos}
/-! ## slices -/
def RO (X : Cx) (EE : XK) (f : Env → M (Option Int)) : TO := fun s H Q => ∃ r G A S, EnvR X.K G A s r ∧ Rel X.K A S G H ∧ (f r S).post (fun o S' => ∀ G' A' H', Ex A G H A' G' H' → Rel X.K A' S' G' H' → Q o H') (QE X.K X.mg EE G A H)
abbrev FO (X : Cx) (EE : XK) (e : Option Expr) (f : Env → M (Option Int)) : Prop := PO X e (RO X EE f)
def oNone : Env → M (Option Int) := fun _ => ret none
def oSome (f : FEx) : Env → M (Option Int) := fun r => bnd (f r) fun d => bnd (opt d.int?) fun i => ret (some i)
theorem fo_none : FO X EE none oNone := ⟨fun pins s σ H Q I ⟨r, G, A, S, hr, hR, q⟩ => po_none.run pins s σ H Q I (q G A H Ex.refl hR)⟩
theorem fo_some (h : FE X EE e fe) : FO X EE (some e) (oSome fe) := ⟨fun pins s σ H Q I ⟨r, G, A, S, hr, hR, q⟩ => by
  refine (po_some h).run pins s σ H Q I (re_bnd hr hR q (fun _ _ z => z) fun G1 A1 H1 x d S1 a1 r1 R1 n1 q1 => ?_)
  rw [post_bnd, post_opt] at q1
  obtain ⟨i, ei, q1⟩ := q1
  cases D.int?_eq ei
  cases n1
  exact ⟨i, rfl, q1 G1 A1 H1 a1 R1⟩⟩
def cutL {α : Type} (xs : List α) (lo hi : Option Int) : List α := (xs.drop (HT.sIx xs.length 0 lo)).take (HT.sIx xs.length xs.length hi - HT.sIx xs.length 0 lo)
theorem cut_rel {K : PySem.W.Frag} {G : Hp} {A : List Addr} {vs : List V} {ds : List D} (t : DnAll K G A vs ds) (lo hi : Option Int) : DnAll K G A (cutV vs lo hi) (cutL ds lo hi) := by
  unfold cutV cutL
  rw [t.length]
  exact (t.drop _).take _
theorem strOk_cut {z : Str} (h : PyData.strOk z = true) (lo hi : Option Int) : PyData.strOk (cutS z lo hi) = true := by
  unfold PyData.strOk at *
  rw [Array.all_eq_true'] at *
  intro c hc
  refine h c ?_
  have hc' : c ∈ (cutS z lo hi).cps.toList := by simpa using hc
  unfold cutS at hc'
  simp at hc'
  have := List.mem_of_mem_drop (List.mem_of_mem_take hc')
  simpa using this
def slD (d : D) (lo hi : Option Int) : Option D := alt (on1 D.lst? d fun xs => some (.lst (cutL xs lo hi))) (alt (on1 D.tup? d fun xs => some (.tup (cutL xs lo hi))) (on1 D.str? d fun x => cap x.length (.str (cutS x lo hi))))
def rSlD (K : PySem.W.Frag) (g : D → Option Int → Option Int → Option D) : V → Option Int → Option Int → Hp → VK → Prop := fun x lo hi H Q => ∃ G A S d z, Rel K A S G H ∧ Dv K G A H x d ∧ g d lo hi = some z ∧ ∀ G' H' v, Ex A G H A G' H' → Rel K A S G' H' → Dn K G' A v z → Q v H'
theorem sl_D : SlR X (rSlD X.K slD) := by
  intro pins s σ H x v vl vu lo hi sl Q I rx hs pl pu ⟨G, A, S, d, z, R, hd, hg, q⟩
  replace hg := alt_eq hg
  rcases hg with hg | hg
  · obtain ⟨xs, h1, hk⟩ := on1_eq hg
    clear hg
    cases D.lst?_eq h1
    cases hk
    obtain ⟨a, vs, rfl, s1, t1⟩ := hd.lstE R
    exact sl_list pins s σ H _ v vl vu lo hi sl Q I rx hs pl pu ⟨a, vs, rfl, s1.sq, fun p hp => new_lst R (cut_rel t1 lo hi) hp q⟩
  replace hg := alt_eq hg
  rcases hg with hg | hg
  · obtain ⟨xs, h1, hk⟩ := on1_eq hg
    clear hg
    cases D.tup?_eq h1
    cases hk
    obtain ⟨a, vs, rfl, s1, t1⟩ := hd.tupE R
    refine sl_tupF pins s σ H _ v vl vu lo hi sl Q I rx hs pl pu ⟨a, vs, rfl, s1.sq, fun hw => q G H _ Ex.refl R ?_, new_tup R (cut_rel t1 lo hi) q⟩
    have e1 : cutL xs lo hi = xs := by
      have hl := congrArg List.length hw
      unfold cutV at hl
      unfold cutL
      rw [List.length_take, List.length_drop, t1.length] at hl
      have a1 := HT.sIx_le xs.length 0 (Nat.zero_le _) lo
      have a2 := HT.sIx_le xs.length xs.length (Nat.le_refl _) hi
      by_cases hx : xs.length = 0
      · have : xs = [] := List.eq_nil_of_length_eq_zero hx
        subst this
        simp
      · have e0 : HT.sIx xs.length 0 lo = 0 := by omega
        have e9 : HT.sIx xs.length xs.length hi = xs.length := by omega
        rw [e0, e9, List.drop_zero, Nat.sub_zero, List.take_length]
    rw [e1]
    exact hd.tupN
  · obtain ⟨xs, h1, hk⟩ := on1_eq hg
    clear hg
    cases D.str?_eq h1
    obtain ⟨rfl, hl⟩ := cap_eq hk
    obtain ⟨rfl, o1⟩ := hd.strE
    exact sl_str pins s σ H _ v vl vu lo hi sl Q I rx hs pl pu ⟨xs, rfl, small_line hl, q G H _ Ex.refl R (.str _ (strOk_cut o1 lo hi))⟩
def eSl (f : FEx) (l u : Env → M (Option Int)) : FEx := fun r => bnd (f r) fun x => bnd (l r) fun lo => bnd (u r) fun hi => fun S => opt (slD (vw S x) lo hi) S
theorem ro_bnd {s : L2.St} {H : Hp} {Q : Option Int → Hp → Prop} {r : Env} {G : Hp} {A : List Addr} {S : Sto} {α : Type} {f : Env → M (Option Int)} {k : Option Int → M α} {P : α → Sto → Prop} {E : Exn → Sto → Prop}
    (hr : EnvR X.K G A s r) (hR : Rel X.K A S G H) (h : (bnd (f r) k S).post P E) (hE : ∀ x S', E x S' → QE X.K X.mg EE G A H x S')
    (w : ∀ G' A' H' d S', Ex A G H A' G' H' → EnvR X.K G' A' s r → Rel X.K A' S' G' H' → (k d S').post P E → Q d H') : RO X EE f s H Q := by
  rw [post_bnd] at h
  refine ⟨r, G, A, S, hr, hR, h.mono (fun d S' q G' A' H' a c => w G' A' H' d S' a (hr.mono a.g a.p) c q) hE⟩
theorem fe_sl {lo hi : Option Expr} {fl fu : Env → M (Option Int)} {p2 : Pos} (he : FE X EE e fe) (hl : FO X EE lo fl) (hu : FO X EE hi fu) : FE X EE (.Subscript e (.Slice lo hi none p2) pos) (eSl fe fl fu) := by
  refine pe_weak (pe_slice sl_D he hl hu) fun s H Q ⟨r, G, A, S, hr, hR, q⟩ => ?_
  refine re_bnd hr hR q (fun _ _ z => z) fun G1 A1 H1 x d S1 a1 r1 R1 n1 q1 => ?_
  refine ro_bnd r1 R1 q1 (fun _ _ z => z.mono a1) fun G2 A2 H2 l S2 a2 r2 R2 q2 => ?_
  refine ro_bnd r2 R2 q2 (fun _ _ z => z.mono (a1.trans a2)) fun G3 A3 H3 u S3 a3 r3 R3 q3 => ?_
  rw [post_opt] at q3
  obtain ⟨z, hz, q3⟩ := q3
  exact ⟨G3, A3, S3, _, z, R3, R3.view (n1.mono (a2.trans a3).g (a2.trans a3).p), hz, fun G4 H4 v a4 R4 n4 => q3 G4 A3 H4 v (((a1.trans a2).trans a3).trans a4) R4 n4⟩

/-! ## built-in functions -/
def one {α : Type} (k : D → Option α) : List D → Option α
  | [d] => k d
  | _ => none
def two {α : Type} (k : D → D → Option α) : List D → Option α
  | [d, e] => k d e
  | _ => none
theorem one_eq {α : Type} {k : D → Option α} {ds : List D} {z : α} (h : one k ds = some z) : ∃ d, ds = [d] ∧ k d = some z := by
  match ds, h with
  | [d], h => exact ⟨d, rfl, h⟩
theorem two_eq {α : Type} {k : D → D → Option α} {ds : List D} {z : α} (h : two k ds = some z) : ∃ d e, ds = [d, e] ∧ k d e = some z := by
  match ds, h with
  | [d, e], h => exact ⟨d, e, rfl, h⟩
theorem DvAll.one {K : PySem.W.Frag} {G H : Hp} {A : List Addr} {vs : List V} {d : D} (h : DvAll K G A H vs [d]) : ∃ v, vs = [v] ∧ Dv K G A H v d := by
  cases h with | cons a b => cases b; exact ⟨_, rfl, a⟩
theorem DvAll.two {K : PySem.W.Frag} {G H : Hp} {A : List Addr} {vs : List V} {d e : D} (h : DvAll K G A H vs [d, e]) : ∃ v w, vs = [v, w] ∧ Dv K G A H v d ∧ Dv K G A H w e := by
  cases h with | cons a b => cases b with | cons c b => cases b; exact ⟨_, _, rfl, a, c⟩
def lenD : List D → Option D := one fun d => alt (on1 D.lst? d fun xs => some (.int xs.length)) (alt (on1 D.tup? d fun xs => some (.int xs.length)) (alt (on1 D.str? d fun x => cap x.length (.int x.length)) (on1 D.dct? d fun xs => some (.int xs.length))))
theorem DnKV.length {K : PySem.W.Frag} {G : Hp} {A : List Addr} : ∀ {vs : List (Key × V)} {ds : List (Key × D)}, DnKV K G A vs ds → vs.length = ds.length
  | _, _, .nil => rfl
  | _, _, .cons _ b => by simp [b.length]
theorem call_lenD : CallR X (.builtin "len") (rDs X.K lenD) := by
  intro pins s σ H xs us Q I r ⟨G, A, S, ds, z, R, hds, hgs, q⟩
  obtain ⟨d, rfl, hg⟩ := one_eq hgs
  obtain ⟨x, rfl, hd⟩ := hds.one
  clear hgs hds
  replace hg := alt_eq hg
  rcases hg with hg | hg
  · obtain ⟨xs, h1, hk⟩ := on1_eq hg
    clear hg
    cases D.lst?_eq h1
    cases hk
    obtain ⟨a, vs, rfl, s1, t1⟩ := hd.lstE R
    exact call_len_seq pins s σ H _ us Q I r ⟨a, vs, rfl, .inl (s1.sq), by rw [t1.length]; exact q G H _ Ex.refl R (.int _)⟩
  replace hg := alt_eq hg
  rcases hg with hg | hg
  · obtain ⟨xs, h1, hk⟩ := on1_eq hg
    clear hg
    cases D.tup?_eq h1
    cases hk
    obtain ⟨a, vs, rfl, s1, t1⟩ := hd.tupE R
    exact call_len_seq pins s σ H _ us Q I r ⟨a, vs, rfl, .inr s1.sq, by rw [t1.length]; exact q G H _ Ex.refl R (.int _)⟩
  replace hg := alt_eq hg
  rcases hg with hg | hg
  · obtain ⟨xs, h1, hk⟩ := on1_eq hg
    clear hg
    cases D.str?_eq h1
    obtain ⟨rfl, hl⟩ := cap_eq hk
    exact call_len_str pins s σ H _ us Q I r ⟨xs, by rw [hd.strE.1], small_line hl, q G H _ Ex.refl R (.int _)⟩
  · obtain ⟨xs, h1, hk⟩ := on1_eq hg
    clear hg
    cases D.dct?_eq h1
    cases hk
    obtain ⟨a, vs, rfl, s1, t1⟩ := hd.dctE R
    obtain ⟨u, rfl, rx⟩ := vals1 r
    cases rx
    refine d_len I (.inl s1) fun t s' I' => ⟨.int vs.length, H, I', ⟨t, rfl⟩, ?_⟩
    rw [t1.length]
    exact q G H _ Ex.refl R (.int _)
def intD : List D → Option D := one fun d => alt (on1 D.int? d fun i => some (.int i)) (alt (on1 D.bl? d fun b => some (.int (if b then 1 else 0))) (on1 D.str? d fun x => if x.length ≤ 640 then (PySem.intText? x).map .int else none))
theorem call_intD : CallR X (.type "int") (rDs X.K intD) := by
  intro pins s σ H xs us Q I r ⟨G, A, S, ds, z, R, hds, hgs, q⟩
  obtain ⟨d, rfl, hg⟩ := one_eq hgs
  obtain ⟨x, rfl, hd⟩ := hds.one
  clear hgs hds
  replace hg := alt_eq hg
  rcases hg with hg | hg
  · obtain ⟨i, h1, hk⟩ := on1_eq hg
    clear hg
    cases D.int?_eq h1
    cases hk
    exact call_int1 pins s σ H _ us Q I r (.inl ⟨i, by rw [hd.intE], q G H _ Ex.refl R (.int _)⟩)
  replace hg := alt_eq hg
  rcases hg with hg | hg
  · obtain ⟨i, h1, hk⟩ := on1_eq hg
    clear hg
    cases D.bl?_eq h1
    cases hk
    exact call_int1 pins s σ H _ us Q I r (.inr ⟨i, by rw [hd.blE], q G H _ Ex.refl R (.int _)⟩)
  · obtain ⟨i, h1, hk⟩ := on1_eq hg
    clear hg
    cases D.str?_eq h1
    split at hk
    · rename_i hl
      obtain ⟨n, en, rfl⟩ := Option.map_eq_some_iff.mp hk
      exact call_int_str pins s σ H _ us Q I r ⟨i, n, by rw [hd.strE.1], en, hl, q G H _ Ex.refl R (.int _)⟩
    · cases hk
def tupleD : List D → Option D := one fun d => alt (on1 D.lst? d fun xs => some (.tup xs)) (on1 D.tup? d fun xs => some (.tup xs))
theorem call_tupleD : CallR X (.type "tuple") (rDs X.K tupleD) := by
  intro pins s σ H xs us Q I r ⟨G, A, S, ds, z, R, hds, hgs, q⟩
  obtain ⟨d, rfl, hg⟩ := one_eq hgs
  obtain ⟨x, rfl, hd⟩ := hds.one
  clear hgs hds
  replace hg := alt_eq hg
  rcases hg with hg | hg
  · obtain ⟨xs, h1, hk⟩ := on1_eq hg
    clear hg
    cases D.lst?_eq h1
    cases hk
    obtain ⟨a, vs, rfl, s1, t1⟩ := hd.lstE R
    exact call_tupleF pins s σ H _ us Q I r ⟨a, vs, rfl, .inl ⟨s1.sq, new_tup R t1 q⟩⟩
  · obtain ⟨xs, h1, hk⟩ := on1_eq hg
    clear hg
    cases D.tup?_eq h1
    cases hk
    obtain ⟨a, vs, rfl, s1, t1⟩ := hd.tupE R
    exact call_tupleF pins s σ H _ us Q I r ⟨a, vs, rfl, .inr ⟨s1.sq, q G H _ Ex.refl R hd.tupN⟩⟩
def listD : List D → Option D := one fun d => alt (on1 D.lst? d fun xs => some (.lst xs)) (on1 D.tup? d fun xs => some (.lst xs))
theorem call_listD : CallR X (.type "list") (rDs X.K listD) := by
  intro pins s σ H xs us Q I r ⟨G, A, S, ds, z, R, hds, hgs, q⟩
  obtain ⟨d, rfl, hg⟩ := one_eq hgs
  obtain ⟨x, rfl, hd⟩ := hds.one
  clear hgs hds
  replace hg := alt_eq hg
  rcases hg with hg | hg
  · obtain ⟨xs, h1, hk⟩ := on1_eq hg
    clear hg
    cases D.lst?_eq h1
    cases hk
    obtain ⟨a, vs, rfl, s1, t1⟩ := hd.lstE R
    exact call_list_of pins s σ H _ us Q I r ⟨a, vs, rfl, .inl (s1.sq), fun l hl => new_lst R t1 hl q⟩
  · obtain ⟨xs, h1, hk⟩ := on1_eq hg
    clear hg
    cases D.tup?_eq h1
    cases hk
    obtain ⟨a, vs, rfl, s1, t1⟩ := hd.tupE R
    exact call_list_of pins s σ H _ us Q I r ⟨a, vs, rfl, .inr s1.sq, fun l hl => new_lst R t1 hl q⟩
/-- lists of bools, of ints -/
def allQ {α : Type} (f : D → Option α) : List D → Option (List α)
  | [] => some []
  | d :: ds => match f d, allQ f ds with
    | some a, some as => some (a :: as)
    | _, _ => none
theorem allQ_cons {α : Type} {f : D → Option α} {d : D} {ds : List D} {as : List α} (h : allQ f (d :: ds) = some as) : ∃ a bs, f d = some a ∧ allQ f ds = some bs ∧ as = a :: bs := by
  unfold allQ at h
  cases e1 : f d with
  | none => rw [e1] at h; cases h
  | some a =>
    cases e2 : allQ f ds with
    | none => rw [e1, e2] at h; cases h
    | some bs => rw [e1, e2] at h; cases h; exact ⟨a, bs, rfl, rfl, rfl⟩
theorem bls_rel {K : PySem.W.Frag} {G : Hp} {A : List Addr} : ∀ {ds : List D} {vs : List V} {bs : List Bool}, DnAll K G A vs ds → allQ D.bl? ds = some bs → vs = bs.map V.bl
  | [], _, bs, h, e => by cases h; cases e; rfl
  | d :: ds, _, bs, h, e => by
    cases h with
    | cons a b =>
      obtain ⟨x, ys, e1, e2, rfl⟩ := allQ_cons e
      cases D.bl?_eq e1
      cases a
      rw [bls_rel b e2]
      rfl
theorem ints_rel {K : PySem.W.Frag} {G : Hp} {A : List Addr} : ∀ {ds : List D} {vs : List V} {bs : List Int}, DnAll K G A vs ds → allQ D.int? ds = some bs → vs = bs.map V.int
  | [], _, bs, h, e => by cases h; cases e; rfl
  | d :: ds, _, bs, h, e => by
    cases h with
    | cons a b =>
      obtain ⟨x, ys, e1, e2, rfl⟩ := allQ_cons e
      cases D.int?_eq e1
      cases a
      rw [ints_rel b e2]
      rfl
theorem strs_rel {K : PySem.W.Frag} {G : Hp} {A : List Addr} : ∀ {ds : List D} {vs : List V} {bs : List Str}, DnAll K G A vs ds → allQ D.str? ds = some bs → vs = bs.map V.str ∧ ∀ x ∈ bs, PyData.strOk x = true
  | [], _, bs, h, e => by cases h; cases e; exact ⟨rfl, by simp⟩
  | d :: ds, _, bs, h, e => by
    cases h with
    | cons a b =>
      obtain ⟨x, ys, e1, e2, rfl⟩ := allQ_cons e
      cases D.str?_eq e1
      cases a with
      | str _ o =>
        obtain ⟨h1, h2⟩ := strs_rel b e2
        rw [h1]
        exact ⟨rfl, fun y hy => by rcases List.mem_cons.mp hy with rfl | hy; exact o; exact h2 y hy⟩
def allD : List D → Option D := one fun d => on1 D.lst? d fun xs => (allQ D.bl? xs).map fun bs => .bl (bs.all id)
def anyD : List D → Option D := one fun d => on1 D.lst? d fun xs => (allQ D.bl? xs).map fun bs => .bl (bs.any id)
def sumD : List D → Option D := one fun d => on1 D.lst? d fun xs => (allQ D.int? xs).map fun bs => .int bs.sum
theorem call_allD (hc : X.calm = true) : CallR X (.builtin "all") (rDs X.K allD) := by
  intro pins s σ H xs us Q I r ⟨G, A, S, ds, z, R, hds, hgs, q⟩
  obtain ⟨d, rfl, hg⟩ := one_eq hgs
  obtain ⟨x, rfl, hd⟩ := hds.one
  clear hgs hds
  obtain ⟨xs, h1, hk⟩ := on1_eq hg
  clear hg
  cases D.lst?_eq h1
  obtain ⟨bs, eb, rfl⟩ := Option.map_eq_some_iff.mp hk
  obtain ⟨a, vs, rfl, s1, t1⟩ := hd.lstE R
  have ev := bls_rel t1 eb
  subst ev
  exact cr_all hc pins s σ H _ us Q I r ⟨a, bs, rfl, s1.sq, q G H _ Ex.refl R (.bl _)⟩
theorem call_anyD (hc : X.calm = true) : CallR X (.builtin "any") (rDs X.K anyD) := by
  intro pins s σ H xs us Q I r ⟨G, A, S, ds, z, R, hds, hgs, q⟩
  obtain ⟨d, rfl, hg⟩ := one_eq hgs
  obtain ⟨x, rfl, hd⟩ := hds.one
  clear hgs hds
  obtain ⟨xs, h1, hk⟩ := on1_eq hg
  clear hg
  cases D.lst?_eq h1
  obtain ⟨bs, eb, rfl⟩ := Option.map_eq_some_iff.mp hk
  obtain ⟨a, vs, rfl, s1, t1⟩ := hd.lstE R
  have ev := bls_rel t1 eb
  subst ev
  exact cr_any hc pins s σ H _ us Q I r ⟨a, bs, rfl, s1.sq, q G H _ Ex.refl R (.bl _)⟩
theorem call_sumD (hc : X.calm = true) : CallR X (.builtin "sum") (rDs X.K sumD) := by
  intro pins s σ H xs us Q I r ⟨G, A, S, ds, z, R, hds, hgs, q⟩
  obtain ⟨d, rfl, hg⟩ := one_eq hgs
  obtain ⟨x, rfl, hd⟩ := hds.one
  clear hgs hds
  obtain ⟨xs, h1, hk⟩ := on1_eq hg
  clear hg
  cases D.lst?_eq h1
  obtain ⟨bs, eb, rfl⟩ := Option.map_eq_some_iff.mp hk
  obtain ⟨a, vs, rfl, s1, t1⟩ := hd.lstE R
  have ev := ints_rel t1 eb
  subst ev
  exact cr_sum hc pins s σ H _ us Q I r ⟨a, bs, rfl, s1.sq, q G H _ Ex.refl R (.int _)⟩
end
end FL
end

section
set_option Elab.async false
set_option linter.all false
set_option maxRecDepth 100000
set_option autoImplicit false
set_option maxHeartbeats 2000000
namespace FL
open PySem PySem.Spec PyProof.Rows L2

/-! ## texts whose signs are signs -/
def OkL (l : List Nat) : Prop := ∀ c ∈ l, c < 0x110000
theorem strOk_iff {x : Str} : PyData.strOk x = true ↔ OkL x.cps.toList := by
  unfold PyData.strOk OkL
  rw [Array.all_eq_true']
  constructor
  · intro h c hc; simpa using h c (by simpa using hc)
  · intro h c hc; simpa using h c (by simpa using hc)
theorem char_ok (c : Char) : c.toNat < 0x110000 := by
  have h := c.valid
  have e : c.toNat = c.val.toNat := rfl
  rcases h with h | ⟨h1, h2⟩
  · have : c.val.toNat < 0xd800 := h
    omega
  · have : c.val.toNat < 0x110000 := h2
    omega
theorem ofString_ok (s : String) : PyData.strOk (Str.ofString s) = true := by
  rw [strOk_iff]
  intro c hc
  rw [Str.ofString_eq_toList] at hc
  simp only [List.toList_toArray] at hc
  obtain ⟨d, _, rfl⟩ := List.mem_map.mp hc
  exact char_ok d
theorem okL_app {a b : List Nat} (h : OkL a) (k : OkL b) : OkL (a ++ b) := fun c hc => by
  rcases List.mem_append.mp hc with q | q
  · exact h c q
  · exact k c q
theorem reprChar_ok {q c : Nat} (hc : c < 0x110000) : OkL (Builtin.Str.reprChar q c) := by
  have hx : ∀ w, OkL (List.replicate (w - ((Nat.toDigits 16 c).map Char.toNat).length) 48 ++ (Nat.toDigits 16 c).map Char.toNat) := fun w => by
    refine okL_app (fun d hd => ?_) (fun d hd => ?_)
    · rw [(List.mem_replicate.mp hd).2]; omega
    · obtain ⟨e, _, rfl⟩ := List.mem_map.mp hd
      exact char_ok e
  have two : ∀ a b : Nat, a < 0x110000 → b < 0x110000 → OkL [a, b] := fun a b ha hb d hd => by
    rcases List.mem_cons.mp hd with rfl | hd
    · exact ha
    · rcases List.mem_cons.mp hd with rfl | hd
      · exact hb
      · cases hd
  unfold Builtin.Str.reprChar
  simp only
  split
  · exact two _ _ (by omega) hc
  split
  · exact two _ _ (by omega) (by omega)
  split
  · exact two _ _ (by omega) (by omega)
  split
  · exact two _ _ (by omega) (by omega)
  split
  · intro d hd
    have : d = c := by simpa using hd
    omega
  split
  · exact okL_app (two _ _ (by omega) (by omega)) (hx 2)
  split
  · exact okL_app (two _ _ (by omega) (by omega)) (hx 4)
  · exact okL_app (two _ _ (by omega) (by omega)) (hx 8)
theorem reprText_ok {x : Str} (h : PyData.strOk x = true) : PyData.strOk (reprText x) = true := by
  rw [strOk_iff] at h ⊢
  have hq : reprQuote x < 0x110000 := by unfold reprQuote; split <;> omega
  have key : ∀ (l : List Nat) (acc : Array Nat), OkL l → OkL acc.toList → OkL (l.foldl (fun out c => out ++ (Builtin.Str.reprChar (reprQuote x) c).toArray) acc).toList := by
    intro l
    induction l with
    | nil => intro acc _ ha; exact ha
    | cons c r ih =>
      intro acc hl ha
      refine ih _ (fun d hd => hl d (List.mem_cons_of_mem _ hd)) ?_
      rw [Array.toList_append]
      exact okL_app ha (by simpa using reprChar_ok (q := reprQuote x) (hl c List.mem_cons_self))
  unfold reprText
  simp only [Array.toList_push]
  refine okL_app ?_ (fun d hd => ?_)
  · rw [← Array.foldl_toList]
    exact key _ _ h (fun d hd => by
      have : d = reprQuote x := by simpa using hd
      omega)
  · have : d = reprQuote x := by simpa using hd
    omega
theorem join_ok {sep : Str} (hs : PyData.strOk sep = true) : ∀ {ts : List Str}, (∀ t ∈ ts, PyData.strOk t = true) → PyData.strOk (Str.join sep ts) = true := by
  intro ts
  induction ts with
  | nil => intro _; rw [strOk_iff]; intro c hc; cases hc
  | cons t r ih =>
    intro h
    cases r with
    | nil => exact h t List.mem_cons_self
    | cons u r => exact strOk_app (strOk_app (h t List.mem_cons_self) hs) (ih fun v hv => h v (List.mem_cons_of_mem _ hv))
mutual
theorem shown_ok : ∀ p : PyData, p.canLay0 = true → p.showable = true → PyData.strOk p.shown = true
  | .none, _, _ => by rw [PyData.shown_none]; exact ofString_ok _
  | .bool b, _, _ => by rw [PyData.shown_bool]; cases b <;> exact ofString_ok _
  | .int i, _, _ => by rw [PyData.shown_int]; exact ofString_ok _
  | .str x, h, _ => by rw [PyData.shown_str]; exact reprText_ok h
  | .list xs, h, k => by
    rw [PyData.shown_list]
    exact strOk_app (strOk_app (ofString_ok _) (join_ok (ofString_ok _) (shownAll_ok xs (by simpa [PyData.canLay0] using h) (by simpa [PyData.showable] using k)))) (ofString_ok _)
  | .tuple xs, h, k => by
    rw [PyData.shown_tuple]
    exact strOk_app (strOk_app (ofString_ok _) (join_ok (ofString_ok _) (shownAll_ok xs (by simpa [PyData.canLay0] using h) (by simpa [PyData.showable] using k)))) (ofString_ok _)
  | .dict _, h, _ => by cases h
theorem shownAll_ok : ∀ ps : List PyData, PyData.canLayAll0 ps = true → PyData.showableAll ps = true → ∀ t ∈ PyData.shownAll ps, PyData.strOk t = true
  | [], _, _, t, ht => by rw [PyData.shownAll_nil] at ht; cases ht
  | p :: ps, h, k, t, ht => by
    rw [PyData.shownAll_cons] at ht
    have h' : p.canLay0 = true ∧ PyData.canLayAll0 ps = true := by simpa [PyData.canLayAll0] using h
    have k' : p.showable = true ∧ PyData.showableAll ps = true := by simpa [PyData.showableAll] using k
    rcases List.mem_cons.mp ht with rfl | ht
    · exact shown_ok p h'.1 k'.1
    · exact shownAll_ok ps h'.2 k'.2 t ht
end
mutual
theorem noDict_of : ∀ p : PyData, p.canLay0 = true → p.hasDict = false
  | .none, _ => rfl
  | .bool b, _ => rfl
  | .int i, _ => rfl
  | .str x, _ => rfl
  | .list xs, h => by simpa [PyData.hasDict] using noDictAll_of xs (by simpa [PyData.canLay0] using h)
  | .tuple xs, h => by simpa [PyData.hasDict] using noDictAll_of xs (by simpa [PyData.canLay0] using h)
  | .dict _, h => by cases h
theorem noDictAll_of : ∀ ps : List PyData, PyData.canLayAll0 ps = true → PyData.hasDictAll ps = false
  | [], _ => rfl
  | p :: ps, h => by
    have h' : p.canLay0 = true ∧ PyData.canLayAll0 ps = true := by simpa [PyData.canLayAll0] using h
    simp [PyData.hasDictAll, noDict_of p h'.1, noDictAll_of ps h'.2]
end
section
variable {X : Cx}
def reprP (p : PyData) : Option D := if p.showable = true ∧ p.shown.length ≤ 1000000 then some (.str p.shown) else none
def reprD : List D → Option D := one fun d => (pyD d).bind reprP
theorem call_reprD (hg : X.A.guards = some []) (hu : X.A.units + 66 < cLine) : CallR X (.builtin "repr") (rDs X.K reprD) := by
  intro pins s σ H xs us Q I r ⟨G, A, S, ds, z, R, hds, hgs, q⟩
  obtain ⟨d, rfl, hg1⟩ := one_eq hgs
  obtain ⟨x, rfl, hd⟩ := hds.one
  clear hgs hds
  obtain ⟨p, hp, hr⟩ := Option.bind_eq_some_iff.mp hg1
  clear hg1
  unfold reprP at hr
  split at hr
  · rename_i hc
    obtain ⟨h1, h2⟩ := hc
    cases hr
    obtain ⟨a1, b1⟩ := dv_shaped R hd hp
    obtain ⟨u, rfl, rx⟩ := vals1 r
    obtain ⟨as, rd⟩ := Dp.reads I p x u a1 rx
    have lay := SeqAt.canLay_of_shaped b1
    have dep := SeqAt.depth_of_shaped b1
    have ok := shown_ok p lay h1
    have fin := q G H _ Ex.refl R (.str _ ok)
    have big : p.shown.length ≤ sizeLine := small_line h2
    cases rd with
    | none => exact PySem.P.repr_of_none ⟨.str _, H, I.tok _, ⟨_, rfl⟩, by simpa [PyData.shown_none] using fin⟩
    | bool b => exact PySem.P.repr_of_bool ⟨.str _, H, I.tok _, ⟨_, rfl⟩, by simpa [PyData.shown_bool] using fin⟩
    | int i t => exact PySem.P.repr_of_int (by simpa [PyData.showable] using h1) ⟨.str _, H, I.tok _, ⟨_, rfl⟩, by simpa [PyData.shown_int] using fin⟩
    | str y t => exact PySem.P.repr_of_str ⟨.str _, H, I.tok _, ⟨_, rfl⟩, by simpa [PyData.shown_str] using fin⟩ (by simpa [PyData.shown_str] using big)
    | list e1 e2 e3 e4 =>
      exact repr_of_reads' (.list e1 e2 e3 e4) h1 (fun z => by rw [noDict_of _ lay] at z; cases z) hg (by omega) (fun _ _ z => z) (fun h' u tk k => ⟨.str _, H, I.kept k, ⟨u, rfl⟩, fin⟩) big
    | tuple e1 e2 e3 e4 =>
      exact repr_of_reads' (.tuple e1 e2 e3 e4) h1 (fun z => by rw [noDict_of _ lay] at z; cases z) hg (by omega) (fun _ _ z => z) (fun h' u tk k => ⟨.str _, H, I.kept k, ⟨u, rfl⟩, fin⟩) big
    | dict _ _ _ _ _ => cases lay
  · cases hr
end
end FL
end

section
set_option Elab.async false
set_option linter.all false
set_option maxRecDepth 100000
set_option autoImplicit false
set_option maxHeartbeats 2000000
namespace FL
open PySem PySem.Spec PyProof.Rows L2

/-! ## methods of built-in types, the type told by the value -/
structure MOk (name : Str) (T id : String) : Prop where
  pa : PlainAttrs T
  slot : Slot T name id
  ty : typeOf (.builtin id) = pure (.type "method_descriptor")
def HasTy (X : Cx) (x : V) (T : String) (H : Hp) : Prop := ∀ (pins : List (Addr × Obj)) (s : Shared) (σ : L2.St) (v : Value), Inv X pins σ H s → RelV x v → s.TypeIs v T ∧ ∀ a, v = .ref a → ∃ ob, s.heap.get? a = some ob ∧ ob.dict = none
section
variable {X : Cx} {EE : XK} {o e : Expr} {es : List Expr} {name : Str} {apos cpos : Pos}
def tBMU (X : Cx) (name : Str) (to : TE) (t : TA) : TE := fun σ H Q => to σ H fun x H1 => ∃ T id r, MOk name T id ∧ HasTy X x T H1 ∧ MtR X id r ∧ t σ H1 fun xs H2 => r x xs H2 Q
theorem pe_bmU {to : TE} {t : TA} (ho : PE X o to) (ha : PA X (e :: es) t) (hbase : attributeBase o name X.env (eval o X.env) = eval o X.env := by rfl)
    (hfew : ((backTo cpos (starEach (e :: es) X.env)).all (fun x => !x.1) && (backToKw cpos (keywordEach [] X.env)).all (fun x => x.1.isSome)
      && decide ((e :: es).length + ([] : List Keyword).length + (if ([] : List Keyword).isEmpty then 0 else 1) < 30)) = true := by rfl)
    (hline : (apos.endLine == cpos.line) = true := by rfl) (hs : starEach (e :: es) X.env = (false, eval e X.env) :: starEach es X.env := by rfl) (hplain : (backTo cpos (starEach es X.env)).any (·.1) = false := by rfl) :
    PE X (.Call (.Attribute o name apos) (e :: es) [] cpos) (tBMU X name to t) := by
  refine ⟨fun pins s σ H Q I h => ?_⟩
  refine wpAny_Call_method_late hbase hfew hline rfl (thn (ho.run pins s σ H _ I h) fun v s1 ⟨x, H1, I1, r1, T, id, r, m, ty, hm, q1⟩ => ?_)
  obtain ⟨h1, h2⟩ := ty pins s1 σ v I1 r1
  refine ⟨T, id, m.pa, m.slot, m.ty, h1, h2, ?_⟩
  have hA := ha.run cpos pins s1 σ H1 _ I1 q1
  rw [hs] at hA ⊢
  refine Calls.callWith_builtin (by show (false || (backTo cpos (starEach es X.env)).any (·.1)) = false; rw [hplain] <;> rfl) (Calls.evalArgs_plain ?_)
  exact thn hA fun us s2 ⟨vs, H2, I2, r2, q2⟩ => hm pins s2 σ H2 x vs v us Q I2 r1 r2 q2
def tBMU0 (X : Cx) (name : Str) (to : TE) : TE := fun σ H Q => to σ H fun x H1 => ∃ T id r, MOk name T id ∧ HasTy X x T H1 ∧ MtR X id r ∧ r x [] H1 Q
theorem pe_bmU0 {to : TE} (ho : PE X o to) (hbase : attributeBase o name X.env (eval o X.env) = eval o X.env := by rfl) (hline : (apos.endLine == cpos.line) = true := by rfl) :
    PE X (.Call (.Attribute o name apos) [] [] cpos) (tBMU0 X name to) := by
  refine ⟨fun pins s σ H Q I h => ?_⟩
  refine wpAny_Call_method0_late hbase hline (thn (ho.run pins s σ H _ I h) fun v s1 ⟨x, H1, I1, r1, T, id, r, m, ty, hm, q1⟩ => ?_)
  obtain ⟨h1, h2⟩ := ty pins s1 σ v I1 r1
  exact ⟨T, id, m.pa, m.slot, m.ty, h1, h2, Calls.callWith_builtin rfl (PySem.evalArgs_none (hm pins s1 σ H1 x [] v [] Q I1 r1 .nil q1))⟩

def tyD : D → Option String
  | .str _ => some "str"
  | .lst _ => some "list"
  | .tup _ => some "tuple"
  | .dct _ => some "dict"
  | _ => none
theorem hasTy_of {G H : Hp} {A : List Addr} {S : Sto} {x : V} {d : D} {T : String} (R : Rel X.K A S G H) (h : Dv X.K G A H x d) (e : tyD d = some T) : HasTy X x T H := by
  intro pins s σ v I r
  cases d with
  | str z =>
    cases e
    obtain ⟨rfl, _⟩ := h.strE
    exact tyV_is I r rfl
  | lst ds =>
    cases e
    obtain ⟨a, vs, rfl, s1, _⟩ := h.lstE R
    exact tyV_is I r (.inl ⟨rfl, vs, s1.sq⟩)
  | tup ds =>
    cases e
    obtain ⟨a, vs, rfl, s1, _⟩ := h.tupE R
    cases r
    rcases s1 with ⟨us, s1⟩ | ⟨ob, its, n, h1, h2, h3, _⟩
    · obtain ⟨g, _⟩ := I.hok a _ s1
      exact ⟨⟨_, g, rfl⟩, fun b eb => by cases eb; exact ⟨_, g, rfl⟩⟩
    · exact ⟨⟨ob, I.kIn a ob h1, h2⟩, fun b eb => by cases eb; exact ⟨ob, I.kIn _ ob h1, h3⟩⟩
  | dct ds =>
    cases e
    obtain ⟨a, vs, rfl, s1, _⟩ := h.dctE R
    exact tyV_is I r (.inr (.inr (.inl ⟨rfl, .inl ⟨vs, s1⟩⟩)))
  | _ => cases e
/-- a method by data: ts the types that have it -/
def rDm (K : PySem.W.Frag) (T : String) (g : D → List D → Option D) : V → List V → Hp → VK → Prop := fun x xs H Q => ∃ G A S d ds z, Rel K A S G H ∧ Dv K G A H x d ∧ DvAll K G A H xs ds ∧ tyD d = some T ∧ g d ds = some z ∧ ∀ G' H' v, Ex A G H A G' H' → Rel K A S G' H' → Dn K G' A v z → Q v H'
def MethD (X : Cx) (name : Str) (ts : List String) (g : D → List D → Option D) : Prop := ∀ T ∈ ts, ∃ id, MOk name T id ∧ MtR X id (rDm X.K T g)
def tyIn (ts : List String) (d : D) : Option String := (tyD d).bind fun T => if T ∈ ts then some T else none
theorem tyIn_eq {ts : List String} {d : D} {T : String} (h : tyIn ts d = some T) : tyD d = some T ∧ T ∈ ts := by
  unfold tyIn at h
  obtain ⟨T', e, h⟩ := Option.bind_eq_some_iff.mp h
  split at h
  · rename_i hm; cases h; exact ⟨e, hm⟩
  · cases h
def eMeth (ts : List String) (g : D → List D → Option D) (fo : FEx) (fa : FAx) : FEx := fun r => bnd (fo r) fun x => bnd (fun S => opt (tyIn ts (vw S x)) S) fun T => bnd (fa r) fun xs => fun S => opt (if tyD (vw S x) = some T then g (vw S x) (xs.map (vw S)) else none) S
def eMeth0 (ts : List String) (g : D → List D → Option D) (fo : FEx) : FEx := fun r => bnd (fo r) fun x => fun S => opt ((tyIn ts (vw S x)).bind fun _ => g (vw S x) []) S
variable {fo : FEx} {fs : FAx}
theorem fe_meth {ts : List String} {g : D → List D → Option D} (hm : MethD X name ts g) (ho : FE X EE o fo) (ha : FA X EE (e :: es) fs) (hbase : attributeBase o name X.env (eval o X.env) = eval o X.env := by rfl)
    (hfew : ((backTo cpos (starEach (e :: es) X.env)).all (fun x => !x.1) && (backToKw cpos (keywordEach [] X.env)).all (fun x => x.1.isSome)
      && decide ((e :: es).length + ([] : List Keyword).length + (if ([] : List Keyword).isEmpty then 0 else 1) < 30)) = true := by rfl)
    (hline : (apos.endLine == cpos.line) = true := by rfl) (hs : starEach (e :: es) X.env = (false, eval e X.env) :: starEach es X.env := by rfl) (hplain : (backTo cpos (starEach es X.env)).any (·.1) = false := by rfl) :
    FE X EE (.Call (.Attribute o name apos) (e :: es) [] cpos) (eMeth ts g fo fs) := by
  refine pe_weak (pe_bmU ho ha hbase hfew hline hs hplain) fun s H Q ⟨r, G, A, S, hr, hR, q⟩ => ?_
  refine re_bnd hr hR q (fun _ _ z => z) fun G1 A1 H1 x d S1 a1 r1 R1 n1 q1 => ?_
  rw [post_bnd, post_opt] at q1
  obtain ⟨T, hT, q1⟩ := q1
  obtain ⟨hT1, hT2⟩ := tyIn_eq hT
  obtain ⟨id, ok, mt⟩ := hm T hT2
  refine ⟨T, id, _, ok, hasTy_of R1 (R1.view n1) hT1, mt, ?_⟩
  refine ra_bnd r1 R1 q1 (fun _ _ z => z.mono a1) fun G2 A2 H2 xs ds S2 a2 r2 R2 n2 q2 => ?_
  rw [post_opt] at q2
  obtain ⟨z, hz, q2⟩ := q2
  split at hz
  · rename_i ht
    exact ⟨G2, A2, S2, _, _, z, R2, R2.view (n1.mono a2.g a2.p), R2.views n2, ht, hz, fun G3 H3 v a3 R3 n3 => q2 G3 A2 H3 v ((a1.trans a2).trans a3) R3 n3⟩
  · cases hz
theorem fe_meth0 {ts : List String} {g : D → List D → Option D} (hm : MethD X name ts g) (ho : FE X EE o fo) (hbase : attributeBase o name X.env (eval o X.env) = eval o X.env := by rfl) (hline : (apos.endLine == cpos.line) = true := by rfl) :
    FE X EE (.Call (.Attribute o name apos) [] [] cpos) (eMeth0 ts g fo) := by
  refine pe_weak (pe_bmU0 ho hbase hline) fun s H Q ⟨r, G, A, S, hr, hR, q⟩ => ?_
  refine re_bnd hr hR q (fun _ _ z => z) fun G1 A1 H1 x d S1 a1 r1 R1 n1 q1 => ?_
  rw [post_opt] at q1
  obtain ⟨z, hz, q1⟩ := q1
  obtain ⟨T, hT, hz⟩ := Option.bind_eq_some_iff.mp hz
  obtain ⟨hT1, hT2⟩ := tyIn_eq hT
  obtain ⟨id, ok, mt⟩ := hm T hT2
  exact ⟨T, id, _, ok, hasTy_of R1 (R1.view n1) hT1, mt, G1, A1, S1, _, [], z, R1, R1.view n1, .nil, hT1, hz, fun G3 H3 v a3 R3 n3 => q1 G3 A1 H3 v (a1.trans a3) R3 n3⟩

/-! ### single methods -/
theorem single {name : Str} {T : String} {g : D → List D → Option D} (h : ∃ id, MOk name T id ∧ MtR X id (rDm X.K T g)) : MethD X name [T] g := fun T' hT => by
  have : T' = T := by simpa using hT
  subst this
  exact h
theorem strs_new {K : PySem.W.Frag} {G H : Hp} {A : List Addr} {S : Sto} {ys : List Str} {Q : VK} (R : Rel K A S G H) (ok : ∀ y ∈ ys, PyData.strOk y = true)
    (q : ∀ G' H' v, Ex A G H A G' H' → Rel K A S G' H' → Dn K G' A v (.lst (ys.map .str)) → Q v H') : rNewStrs ys H Q := fun p hp => by
  refine new_lst R ?_ hp q
  clear q
  induction ys with
  | nil => exact .nil
  | cons y r ih => exact .cons (.str y (ok y List.mem_cons_self)) (ih fun z hz => ok z (List.mem_cons_of_mem _ hz))
theorem mem_join {sep : Str} {c : Nat} : ∀ {ts : List Str} {t : Str}, t ∈ ts → c ∈ t.cps.toList → c ∈ (Str.join sep ts).cps.toList := by
  intro ts
  induction ts with
  | nil => intro t h; cases h
  | cons u r ih =>
    intro t h hc
    cases r with
    | nil =>
      have : t = u := by simpa using h
      subst this
      exact hc
    | cons w r =>
      have e : (Str.join sep (u :: w :: r)).cps.toList = u.cps.toList ++ sep.cps.toList ++ (Str.join sep (w :: r)).cps.toList := by
        show (u ++ sep ++ Str.join sep (w :: r)).cps.toList = _
        show ((u.cps ++ sep.cps) ++ (Str.join sep (w :: r)).cps).toList = _
        rw [Array.toList_append, Array.toList_append]
      rw [e]
      rcases List.mem_cons.mp h with rfl | h
      · exact List.mem_append_left _ (List.mem_append_left _ hc)
      · exact List.mem_append_right _ (ih h hc)
theorem split_ok {a b : Str} (h : PyData.strOk a = true) : ∀ y ∈ Txt.split a b, PyData.strOk y = true := by
  intro y hy
  rw [strOk_iff] at h ⊢
  intro c hc
  refine h c ?_
  rw [← StrLaws.join_split a b]
  exact mem_join hy hc
def splitD (d : D) (ds : List D) : Option D := one (fun e => on2 D.str? D.str? d e fun a b => guard' (b.length != 0 && decide (a.length ≤ 1000000)) (.lst ((Txt.split a b).map .str))) ds
theorem meth_split : MethD X "split" ["str"] splitD := single ⟨_, ⟨PySem.F.plainAttrs_str, PySem.F.slot_str_split, PySem.F.type_str_split⟩, by
  intro pins s σ H x xs v us Q I rx rs ⟨G, A, S, d, ds, z, R, hd, hds, _, hg, q⟩
  obtain ⟨e, rfl, hk⟩ := one_eq hg
  clear hg
  obtain ⟨y, rfl, he⟩ := hds.one
  obtain ⟨a, b, h1, h2, hg⟩ := on2_eq hk
  clear hk hds
  cases D.str?_eq h1
  cases D.str?_eq h2
  obtain ⟨rfl, hc⟩ := guard_eq hg
  obtain ⟨c1, c2⟩ := Bool.and_eq_true_iff.mp hc
  obtain ⟨rfl, o1⟩ := hd.strE
  refine mt_split pins s σ H _ _ v us Q I rx rs ⟨a, b, rfl, by rw [he.strE.1], by simpa using c1, ?_, strs_new R (split_ok o1) q⟩
  have := of_decide_eq_true c2
  rw [sizeLine_eq]
  omega⟩

def isdigitD (d : D) (ds : List D) : Option D := on1 D.str? d fun a => guard' ds.isEmpty (.bl (Txt.isdigit a))
theorem meth_isdigit : MethD X "isdigit" ["str"] isdigitD := single ⟨_, ⟨PySem.F.plainAttrs_str, PySem.F.slot_str_isdigit, PySem.F.type_str_isdigit⟩, by
  intro pins s σ H x xs v us Q I rx rs ⟨G, A, S, d, ds, z, R, hd, hds, _, hg, q⟩
  obtain ⟨a, h1, hk⟩ := on1_eq hg
  clear hg
  cases D.str?_eq h1
  obtain ⟨rfl, hc⟩ := guard_eq hk
  have : ds = [] := List.isEmpty_iff.mp hc
  subst this
  cases hds
  exact mt_isdigit pins s σ H _ _ v us Q I rx rs ⟨a, hd.strE.1, rfl, trivial, q G H _ Ex.refl R (.bl _)⟩⟩
def countD (d : D) (ds : List D) : Option D := one (fun e => on2 D.str? D.str? d e fun a b => some (.int (Txt.count a b))) ds
theorem meth_count : MethD X "count" ["str"] countD := single ⟨_, ⟨PySem.F.plainAttrs_str, PySem.F.slot_str_count, PySem.F.type_str_count⟩, by
  intro pins s σ H x xs v us Q I rx rs ⟨G, A, S, d, ds, z, R, hd, hds, _, hg, q⟩
  obtain ⟨e, rfl, hk⟩ := one_eq hg
  clear hg
  obtain ⟨y, rfl, he⟩ := hds.one
  obtain ⟨a, b, h1, h2, hg⟩ := on2_eq hk
  clear hk hds
  cases D.str?_eq h1
  cases D.str?_eq h2
  cases hg
  exact mt_count pins s σ H _ _ v us Q I rx rs ⟨a, b, hd.strE.1, by rw [he.strE.1], q G H _ Ex.refl R (.int _)⟩⟩
def joinD (d : D) (ds : List D) : Option D := one (fun e => on1 D.str? d fun a => (alt e.lst? e.tup?).bind fun xs => (allQ D.str? xs).bind fun ys => guard' (decide ((ys.map (·.length)).sum + ys.length * a.length ≤ 1000000)) (.str (Str.join a ys))) ds
def D.firm : D → Bool
  | .lst _ => false
  | .dct _ => false
  | .ref _ => false
  | _ => true
theorem Dv.firm {K : PySem.W.Frag} {G H : Hp} {A : List Addr} {v : V} {d : D} (h : Dv K G A H v d) (e : d.firm = true) : Dn K G A v d := by
  cases h with
  | of h => exact h
  | lst _ _ => cases e
  | dct _ _ => cases e
def get2D (d : D) (ds : List D) : Option D := two (fun k e => on2 D.dct? D.key? d k fun kvs k => guard' e.firm ((lookK kvs k).getD e)) ds
theorem meth_get2 (hu : X.A.units + 1 < cLine) : MethD X "get" ["dict"] get2D := single ⟨_, ⟨PySem.F.plainAttrs_dict, PySem.F.slot_dict_get, PySem.F.type_dict_get⟩, by
  intro pins s σ H x xs v us Q I rx rs ⟨G, A, S, d, ds, z, R, hd, hds, _, hg, q⟩
  obtain ⟨k, e, rfl, hk⟩ := two_eq hg
  clear hg
  obtain ⟨y, w, rfl, h1, h2⟩ := hds.two
  clear hds
  obtain ⟨kvs, kk, e1, e2, hg⟩ := on2_eq hk
  clear hk
  cases D.dct?_eq e1
  obtain ⟨rfl, hf⟩ := guard_eq hg
  obtain ⟨a, vs, rfl, s1, t1⟩ := hd.dctE R
  have ek := dv_key h1 e2
  subst ek
  cases rx
  obtain ⟨u1, u2, rfl, r1, r2⟩ := vals2 rs
  refine d_get2 hu I (DGet.k (k := kk) s1) r1 r2 fun w' s' I' rw' => ?_
  cases hl : lookK kvs kk with
  | none =>
    rw [(look_rel t1).2 hl] at rw'
    rw [hl] at q
    exact ⟨w, H, I', rw', q G H _ Ex.refl R (h2.firm hf)⟩
  | some f =>
    obtain ⟨v1, ev, nv⟩ := (look_rel t1).1 f hl
    rw [ev] at rw'
    rw [hl] at q
    exact ⟨v1, H, I', rw', q G H _ Ex.refl R nv⟩⟩
/-- the first place of an equal one -/
def idxP (p : PyData) : List PyData → Option Nat
  | [] => none
  | r :: rs => if PyData.eqv r p = true then some 0 else (idxP p rs).map (· + 1)
theorem idxP_eq {p : PyData} : ∀ {ps : List PyData} {j : Nat}, idxP p ps = some j → ∃ z, ps[j]? = some z ∧ PyData.eqv z p = true ∧ ∀ (m : Nat) (z' : PyData), m < j → ps[m]? = some z' → PyData.eqv z' p = false
  | [], _, h => by cases h
  | r :: rs, j, h => by
    unfold idxP at h
    split at h
    · rename_i hr
      cases h
      exact ⟨r, rfl, hr, fun m z' hm _ => absurd hm (Nat.not_lt_zero _)⟩
    · rename_i hr
      obtain ⟨i, ei, rfl⟩ := Option.map_eq_some_iff.mp h
      obtain ⟨z, e1, e2, e3⟩ := idxP_eq ei
      refine ⟨z, by simpa using e1, e2, fun m z' hm hz => ?_⟩
      cases m with
      | zero => simp at hz; subst hz; simpa using hr
      | succ m => exact e3 m z' (by omega) (by simpa using hz)
def indexD (d : D) (ds : List D) : Option D := one (fun e => match pyD d, pyD e with
  | some p, some r => (seqP p).bind fun ps => (idxP r ps).map fun j => .int (j : Nat)
  | _, _ => none) ds
theorem indexD_eq {d : D} {ds : List D} {z : D} (h : indexD d ds = some z) : ∃ e p r ps j, ds = [e] ∧ pyD d = some p ∧ pyD e = some r ∧ (p = .list ps ∨ p = .tuple ps) ∧ idxP r ps = some j ∧ z = .int (j : Nat) := by
  obtain ⟨e, rfl, hk⟩ := one_eq h
  cases e1 : pyD d with
  | none => rw [e1] at hk; cases hk
  | some p =>
    cases e2 : pyD e with
    | none => rw [e1, e2] at hk; cases hk
    | some r =>
      rw [e1, e2] at hk
      obtain ⟨ps, hp, hk⟩ := Option.bind_eq_some_iff.mp hk
      obtain ⟨j, hj, rfl⟩ := Option.map_eq_some_iff.mp hk
      refine ⟨e, p, r, ps, j, rfl, rfl, e2, ?_, hj, rfl⟩
      cases p with
      | list xs => cases hp; exact .inl rfl
      | tuple xs => cases hp; exact .inr rfl
      | _ => cases hp
theorem meth_index (hu : X.A.units + 65 < cLine) : MethD X "index" ["list", "tuple"] indexD := by
  intro T hT
  rcases List.mem_cons.mp hT with rfl | hT
  · refine ⟨_, ⟨PySem.F.plainAttrs_list, PySem.F.slot_list_index, PySem.F.type_list_index⟩, ?_⟩
    intro pins s σ H x xs v us Q I rx rs ⟨G, A, S, d, ds, z, R, hd, hds, ht, hg, q⟩
    obtain ⟨e, p, r, ps, j, rfl, h1, h2, h3, h4, rfl⟩ := indexD_eq hg
    clear hg
    obtain ⟨y, rfl, he⟩ := hds.one
    obtain ⟨a1, b1⟩ := dv_shaped R hd h1
    obtain ⟨a2, b2⟩ := dv_shaped R he h2
    have ep : p = .list ps := by
      rcases h3 with rfl | rfl
      · rfl
      · have := (pyD_eq h1).1
        cases d <;> first | (simp [tyD] at ht; done) | (simp [toPy] at this; done)
    subst ep
    obtain ⟨w, e1, e2, e3⟩ := idxP_eq h4
    have hx : ∃ a, x = .ref a := by cases a1; exact ⟨_, rfl⟩
    obtain ⟨a, rfl⟩ := hx
    exact mt_indexD hu pins s σ H _ _ v us Q I rx rs ⟨a, y, r, ps, j, w, rfl, rfl, a1, a2, b1, b2, e1, e2, e3, q G H _ Ex.refl R (.int _)⟩
  · have : T = "tuple" := by simpa using hT
    subst this
    refine ⟨_, ⟨PySem.F.plainAttrs_tuple, PySem.F.slot_tuple_index, PySem.F.type_tuple_index⟩, ?_⟩
    intro pins s σ H x xs v us Q I rx rs ⟨G, A, S, d, ds, z, R, hd, hds, ht, hg, q⟩
    obtain ⟨e, p, r, ps, j, rfl, h1, h2, h3, h4, rfl⟩ := indexD_eq hg
    clear hg
    obtain ⟨y, rfl, he⟩ := hds.one
    obtain ⟨a1, b1⟩ := dv_shaped R hd h1
    obtain ⟨a2, b2⟩ := dv_shaped R he h2
    have ep : p = .tuple ps := by
      rcases h3 with rfl | rfl
      · have := (pyD_eq h1).1
        cases d <;> first | (simp [tyD] at ht; done) | (simp [toPy] at this; done)
      · rfl
    subst ep
    obtain ⟨w, e1, e2, e3⟩ := idxP_eq h4
    cases a1 with
    | @tup a vs _ hs ha =>
      cases rx
      obtain ⟨uy, rfl, ry⟩ := vals1 rs
      obtain ⟨cs, rr⟩ := Dp.reads I r y uy a2 ry
      have hxs : PyData.canLayAll0 ps = true := SeqAt.canLay_of_shaped b1
      have hroom : X.A.units + 1 + min (PyData.depthAll ps) r.depth < cLine := room_in b2 hu
      obtain ⟨its, rv, ⟨⟨cls, dd, data, sls⟩, ho, hc, n, hdt⟩, hlen⟩ := I.tuple hs
      simp only at hc hdt
      subst hc hdt
      obtain ⟨as, h9⟩ := Dp.readsAll I ps _ its ha rv
      have hn : its.length = ps.length := SeqAt.ReadsAll.length ps its as h9
      have hmap : its.map (SeqAt.readOf s.heap) = ps := SeqAt.readsAll_map ps its as hxs h9
      obtain ⟨hjd, _⟩ := List.getElem?_eq_some_iff.mp e1
      have hj : j < its.toArray.size := by simpa [hn] using hjd
      have at_ : ∀ (m : Nat) (hm : m < its.toArray.size) (z' : PyData), ps[m]? = some z' → SeqAt.readOf s.heap its.toArray[m] = z' := by
        intro m hm z' hz'
        have hml : m < its.length := by simpa using hm
        rw [← hmap, List.getElem?_map, List.getElem?_eq_getElem hml] at hz'
        simpa using hz'
      refine call_meets PySem.F.slot_tuple_index ⟨_, ho, rfl⟩ PySem.F.entry_tuple_index (PySem.F.args_tuple_index_2 _ _)
        (TI.tuple_indexAt a its.toArray n dd sls uy (fun u => PyData.eqv (SeqAt.readOf s.heap u) r) j hj ?_ ?_) ⟨ho, SeqAt.items_eqAt (vs := its.toArray) (show ReadsAll s.heap its.toArray.toList ps as from h9) rr hxs (SeqAt.canLay_of_shaped b2) hroom, ?_⟩
      · show PyData.eqv (SeqAt.readOf s.heap its.toArray[j]) r = true
        rw [at_ j hj w e1]
        exact e2
      · intro m hm hmj
        have hmd : m < ps.length := by omega
        have hz' : ps[m]? = some ps[m] := List.getElem?_eq_getElem hmd
        show PyData.eqv (SeqAt.readOf s.heap its.toArray[m]) r = false
        rw [at_ m hm _ hz']
        exact e3 m _ hmj hz'
      · exact ⟨.int (j : Nat), H, I.tok _, ⟨_, rfl⟩, q G H _ Ex.refl R (.int _)⟩
end
end FL
end

section
set_option Elab.async false
set_option linter.all false
set_option maxRecDepth 100000
set_option autoImplicit false
set_option maxHeartbeats 2000000
namespace FL
open PySem PySem.Spec PyProof.Rows L2

/-! ## isinstance -/
inductive Ty where
  | int | bool | str | tuple | list | dict
def Ty.nm : Ty → String
  | .int => "int"
  | .bool => "bool"
  | .str => "str"
  | .tuple => "tuple"
  | .list => "list"
  | .dict => "dict"
def isiB : Ty → D → Option Bool
  | t, .non => some false
  | .int, .bl _ => some true
  | .bool, .bl _ => some true
  | _, .bl _ => some false
  | .int, .int _ => some true
  | _, .int _ => some false
  | .str, .str _ => some true
  | _, .str _ => some false
  | .list, .lst _ => some true
  | _, .lst _ => some false
  | .tuple, .tup _ => some true
  | _, .tup _ => some false
  | .dict, .dct _ => some true
  | _, .dct _ => some false
  | _, .ref _ => none
def isiD (t : Ty) (d : D) : Option D := (isiB t d).map .bl
def nmD : D → Option String
  | .non => some "NoneType"
  | .bl _ => some "bool"
  | .int _ => some "int"
  | .str _ => some "str"
  | .lst _ => some "list"
  | .tup _ => some "tuple"
  | .dct _ => some "dict"
  | .ref _ => none
theorem kit_all : ∀ n ∈ ["NoneType", "bool", "int", "str", "list", "tuple", "dict"], ∀ t ∈ ["int", "bool", "str", "tuple", "list", "dict"], kitB n t = some (n == t || (n == "bool" && t == "int")) := by decide +kernel
theorem isi_kit {t : Ty} {d : D} {b : Bool} {n : String} (h : isiB t d = some b) (hn : nmD d = some n) : kitB n t.nm = some b := by
  have k : kitB n t.nm = some (n == t.nm || (n == "bool" && t.nm == "int")) := by
    refine kit_all n ?_ t.nm ?_
    · cases d <;> simp [nmD] at hn <;> subst hn <;> decide
    · cases t <;> decide
  rw [k]
  cases d <;> simp [nmD] at hn <;> subst hn <;> cases t <;> simp [isiB] at h <;> subst h <;> decide
section
variable {X : Cx} {EE : XK}
theorem tyx_of {G H : Hp} {A : List Addr} {S : Sto} {x : V} {d : D} {n : String} (R : Rel X.K A S G H) (h : Dv X.K G A H x d) (e : nmD d = some n) : TyX X.K H x (.type n) := by
  cases d with
  | non => cases e; rw [h.nonE]; exact .base .non
  | bl b => cases e; rw [h.blE]; exact .base (.bl b)
  | int i => cases e; rw [h.intE]; exact .base (.int i)
  | str z => cases e; rw [h.strE.1]; exact .base (.str z)
  | lst ds =>
    cases e
    obtain ⟨a, vs, rfl, s1, _⟩ := h.lstE R
    rcases s1 with (s1 | ⟨o, s1⟩) | ⟨its, m, s1, _⟩
    · exact .base (.lst s1)
    · exact .base (.frz s1)
    · exact .kList s1 rfl
  | tup ds =>
    cases e
    obtain ⟨a, vs, rfl, s1, _⟩ := h.tupE R
    rcases s1 with ⟨us, s1⟩ | ⟨ob, its, n, h1, h2, h3, _⟩
    · exact .fTuple s1
    · exact .kTuple h1 h2
  | dct ds =>
    cases e
    obtain ⟨a, vs, rfl, s1, _⟩ := h.dctE R
    exact .base (.dK s1)
  | ref n => cases e
theorem fe_isi {a b : Expr} {fa : FEx} {p pos : Pos} (t : Ty) (ha : FE X EE a fa) (hb : PE X b (tC (.ty t.nm))) (hg : Gl X "isinstance") (hm : X.mg "isinstance" = none)
    (he : starEach [a, b] X.env = (false, eval a X.env) :: starEach [b] X.env := by rfl) (he2 : starEach [b] X.env = (false, eval b X.env) :: starEach [] X.env := by rfl) (hpl : (backTo pos (starEach [b] X.env)).any (·.1) = false := by rfl) :
    FE X EE (.Call (.Name "isinstance" p) [a, b] [] pos) (eUn (isiD t) fa) := by
  refine pe_weak (pe_callB call_isi hg hm (by decide +kernel) (pa_cons ha (pa_cons hb pa_nil he2) he) (by decide) (by decide) he hpl) fun s H Q ⟨r, G, A, S, hr, hR, q⟩ => ?_
  refine re_bnd hr hR q (fun _ _ z => z) fun G1 A1 H1 x d S1 a1 r1 R1 n1 q1 => ?_
  rw [post_opt] at q1
  obtain ⟨z, hz, q1⟩ := q1
  obtain ⟨k, hk, rfl⟩ := Option.map_eq_some_iff.mp hz
  have hn : ∃ n, nmD (vw S1 d) = some n := by
    cases e : vw S1 d <;> first | exact ⟨_, rfl⟩ | (rw [e] at hk; simp [isiB] at hk)
  obtain ⟨n, hn⟩ := hn
  exact ⟨x, .ty t.nm, .type n, .type t.nm, k, rfl, .ty _, tyx_of R1 (R1.view n1) hn, kit_ty (isi_kit hk hn), q1 G1 A1 H1 _ a1 R1 (.bl k)⟩

/-! ## targets -/
def gName' (i : Nat) : FGx := fun d r => ret (r.set i (some d))
theorem fg_name {i : Nat} {tg : Expr} (h : PG X tg (gName i)) : FG X EE tg (gName' i) := by
  refine pg_weak h fun v s H Q ⟨r, G, A, S, d, hr, hR, hd, q⟩ => ?_
  exact q G A H _ Ex.refl hR (hr.set hd)
def gsNil : List D → Env → M Env := fun ds r => if ds = [] then ret r else fun _ => .no
def gsCons (f : FGx) (g : List D → Env → M Env) : List D → Env → M Env := fun ds r => match ds with
  | d :: ds => bnd (f d r) fun r' => g ds r'
  | [] => fun _ => .no
theorem fgs_nil : FGs X EE [] gsNil := by
  refine pgs_weak pgs_nil fun vs s H Q ⟨r, G, A, S, ds, hr, hR, hd, q⟩ => ?_
  unfold gsNil at q
  cases hd with
  | nil => exact ⟨rfl, q G A H _ Ex.refl hR hr⟩
  | cons a b => exact q.elim
theorem fgs_cons {e : Expr} {es : List Expr} {f : FGx} {g : List D → Env → M Env} (h1 : FG X EE e f) (h2 : FGs X EE es g)
    (hs : (assignEach (e :: es) X.env).map (·.2) = assign e X.env :: (assignEach es X.env).map (·.2) := by rfl) : FGs X EE (e :: es) (gsCons f g) := by
  refine pgs_weak (pgs_cons h1 h2 hs) fun vs s H Q ⟨r, G, A, S, ds, hr, hR, hd, q⟩ => ?_
  cases hd with
  | nil => exact q.elim
  | @cons v vs d ds a b =>
    refine ⟨v, vs, rfl, ?_⟩
    rw [show gsCons f g (d :: ds) r = bnd (f d r) fun r' => g ds r' from rfl, post_bnd] at q
    refine ⟨r, G, A, S, d, hr, hR, a, q.mono (fun r' S' q' => ?_) fun _ _ z => z⟩
    intro G1 A1 H1 s1 a1 R1 e1
    exact ⟨r', G1, A1, S', ds, e1, R1, b.mono a1.g a1.p, post_on a1 q' fun _ _ z => z.mono a1⟩
/-- unpacking a tuple that is read -/
def gTup' (n : Nat) (g : List D → Env → M Env) : FGx := fun d r => match d with
  | .tup ds => if ds.length = n then g ds r else fun _ => .no
  | _ => fun _ => .no
theorem fg_tup {es : List Expr} {k : Nat} {g : List D → Env → M Env} {n : Nat} {pos : Pos} (hc : X.calm = true) (h : FGs X EE es g) (hn : (assignEach es X.env).length = n := by rfl) (hst : (assignEach es X.env).findIdx? (·.1) = none := by rfl) : FG X EE (.Tuple es k pos) (gTup' n g) := by
  refine pg_weak (pg_tup hc h hn hst) fun v s H Q ⟨r, G, A, S, d, hr, hR, hd, q⟩ => ?_
  cases d with
  | tup ds =>
    unfold gTup' at q
    simp only at q
    split at q
    · rename_i hl
      obtain ⟨a, vs, rfl, s1, t1⟩ := (Dv.of hd : Dv X.K G A H v (.tup ds)).tupE hR
      exact ⟨a, vs, rfl, s1.sq, by rw [t1.length]; exact hl, r, G, A, S, ds, hr, hR, t1, q⟩
    · exact q.elim
  | _ => exact q.elim

/-! ## plain statements -/
def sAsg (f : FEx) (g : FGx) : FSx := fun r => bnd (f r) fun d => bnd (g d r) fun r' => ret (.nx r')
theorem to_asg {f : FEx} {g : FGx} : ∀ (T : Ends) s H, RS X EE (sAsg f g) T s H → tAsg (RE X EE f) (RG X EE g) T s H := by
  intro T s H ⟨r, G, A, S, hr, hR, q⟩
  refine re_bnd hr hR q (fun _ _ z => z) fun G1 A1 H1 x d S1 a1 r1 R1 n1 q1 => ?_
  rw [post_bnd] at q1
  refine ⟨r, G1, A1, S1, d, r1, R1, n1, q1.mono (fun r' S' q' => ?_) fun _ _ z => z.mono a1⟩
  exact QEnv.mono a1 q'
theorem fs_asg {tg e : Expr} {f : FEx} {g : FGx} {pos : Pos} (he : FE X EE e f) (hg : FG X EE tg g) (hs : swapsWithSole [tg] e pos.line X.env = pure false := by rfl) (hw : swappedStores [tg] e X.env = pure none := by rfl)
    (h1 : (assignEach [tg] X.env).map (·.2) = [assign tg X.env] := by rfl) : FS X EE (.Assign [tg] e pos) (sAsg f g) := ps_weak (ps_asg he hg hs hw h1) to_asg
theorem fs_set {i : Nat} {x : Str} {e : Expr} {f : FEx} {pos pos' : Pos} (hN : X.N.Nodup) (hi : X.N[i]? = some x) (hx : Loc X.env.scope x) (he : FE X EE e f) (hs : swapsWith e (some (.Name x pos')) pos.line X.env = pure false := by rfl) (hf : X.fn x = true ∨ X.env.scope.names.lookup x = some .local := by first | exact .inl rfl | exact .inr rfl | assumption) :
    FS X EE (.Assign [.Name x pos'] e pos) (sAsg f (gName' i)) := by
  refine ps_weak (ps_set hN hi hx he hs hf) fun T s H ⟨r, G, A, S, hr, hR, q⟩ => ?_
  refine re_bnd hr hR q (fun _ _ z => z) fun G1 A1 H1 x d S1 a1 r1 R1 n1 q1 => ?_
  exact q1 G1 A1 H1 _ a1 R1 (r1.set n1)
/-- a, b = x, y -/
def sPar (i j : Nat) (f : FAx) : FSx := fun r => bnd (f r) fun ds => match ds with
  | [d, e] => ret (.nx ((r.set i (some d)).set j (some e)))
  | _ => fun _ => .no
theorem fs_par {i j : Nat} {x y : Str} {a b : Expr} {fa : FAx} {px py pt pos : Pos} {kt k2 pt2} (hc : X.calm = true) (hN : X.N.Nodup) (hi : X.N[i]? = some x) (hj : X.N[j]? = some y) (hij : i ≠ j)
    (hx : X.env.scope.names.lookup x = some .local) (hy : X.env.scope.names.lookup y = some .local) (ha : FA X EE [a, b] fa)
    (hw : swappedStores [.Tuple [.Name x px, .Name y py] kt pt] (.Tuple [a, b] k2 pt2) X.env = pure (some [x, y]))
    (hs : swapsWithSole [.Tuple [.Name x px, .Name y py] kt pt] (.Tuple [a, b] k2 pt2) pos.line X.env = pure false := by rfl) :
    FS X EE (.Assign [.Tuple [.Name x px, .Name y py] kt pt] (.Tuple [a, b] k2 pt2) pos) (sPar i j fa) := by
  refine ps_weak (ps_par hc hN hi hj hij hx hy ha hw hs) fun T s H ⟨r, G, A, S, hr, hR, q⟩ => ?_
  refine ra_bnd hr hR q (fun _ _ z => z) fun G1 A1 H1 vs ds S1 a1 r1 R1 n1 q1 => ?_
  match ds, n1, q1 with
  | [d, e], nn, q1 =>
    cases nn with
    | cons m1 mm =>
      cases mm with
      | cons m2 m3 =>
        cases m3
        exact ⟨_, _, rfl, q1 G1 A1 H1 _ a1 R1 ((r1.set m1).set m2)⟩
  | [], _, q1 => exact q1.elim
  | [_], _, q1 => exact q1.elim
  | _ :: _ :: _ :: _, _, q1 => exact q1.elim
def sExpr (f : FEx) : FSx := fun r => bnd (f r) fun _ => ret (.nx r)
theorem fs_expr {e : Expr} {f : FEx} {pos : Pos} (he : FE X EE e f) (hs : swapsWith e none pos.line X.env = pure false := by rfl) : FS X EE (.Expr e pos) (sExpr f) := by
  refine ps_weak (ps_expr he hs) fun T s H ⟨r, G, A, S, hr, hR, q⟩ => ?_
  refine re_bnd hr hR q (fun _ _ z => z) fun G1 A1 H1 x d S1 a1 r1 R1 n1 q1 => ?_
  exact q1 G1 A1 H1 _ a1 R1 r1
def sRet (f : FEx) : FSx := fun r => bnd (f r) fun d => ret (.rt d)
theorem fs_ret {e : Expr} {f : FEx} {pos : Pos} (he : FE X EE e f) : FS X EE (.Return (some e) pos) (sRet f) := by
  refine ps_weak (ps_ret he) fun T s H ⟨r, G, A, S, hr, hR, q⟩ => ?_
  refine re_bnd hr hR q (fun _ _ z => z) fun G1 A1 H1 x d S1 a1 r1 R1 n1 q1 => ?_
  exact q1 G1 A1 H1 _ a1 R1 n1
def sRetN : FSx := fun _ => ret (.rt .non)
theorem fs_retN {pos : Pos} : FS X EE (.Return none pos) sRetN := by
  refine ps_weak ps_retN fun T s H ⟨r, G, A, S, hr, hR, q⟩ => ?_
  exact q G A H _ Ex.refl hR .non
def sNext : FSx := fun r => ret (.nx r)
theorem fs_pass {pos : Pos} : FS X EE (.Pass pos) sNext := by
  refine ps_weak ps_pass fun T s H ⟨r, G, A, S, hr, hR, q⟩ => ?_
  exact q G A H _ Ex.refl hR hr
def sBreak : FSx := fun r => ret (.bk r)
def sCont : FSx := fun r => ret (.ct r)
theorem fs_break {pos : Pos} : FS X EE (.Break pos) sBreak := by
  refine ps_weak ps_break fun T s H ⟨r, G, A, S, hr, hR, q⟩ => ?_
  exact q G A H _ Ex.refl hR hr
theorem fs_cont {pos : Pos} : FS X EE (.Continue pos) sCont := by
  refine ps_weak ps_continue fun T s H ⟨r, G, A, S, hr, hR, q⟩ => ?_
  exact q G A H _ Ex.refl hR hr
/-- a statement that is not come to -/
def sNo : FSx := fun _ _ => .no
theorem fs_no {st : Stmt} : FS X EE st sNo := ps_weak ps_never fun T s H ⟨r, G, A, S, hr, hR, q⟩ => q
def sSeq (f g : FSx) : FSx := fun r => bnd (f r) fun fl => match fl with
  | .nx r' => g r'
  | fl => ret fl
theorem fss_nil : FSs X EE [] sNext := by
  refine pss_weak pss_nil fun T s H ⟨r, G, A, S, hr, hR, q⟩ => ?_
  exact q G A H _ Ex.refl hR hr
theorem fss_one {st : Stmt} {f : FSx} (h : FS X EE st f) : FSs X EE [st] f := pss_one h
theorem fss_cons {st : Stmt} {rest : List Stmt} {f g : FSx} (h1 : FS X EE st f) (h2 : FSs X EE rest g) : FSs X EE (st :: rest) (sSeq f g) := by
  refine pss_weak (pss_cons h1 h2) fun T s H ⟨r, G, A, S, hr, hR, q⟩ => ?_
  unfold sSeq at q
  rw [post_bnd] at q
  refine ⟨r, G, A, S, hr, hR, q.mono (fun fl S' q' => ?_) fun _ _ z => z⟩
  cases fl with
  | nx r' =>
    intro G1 A1 H1 s1 a1 R1 e1
    exact ⟨r', G1, A1, S', e1, R1, post_on a1 q' fun _ _ z => z.mono a1⟩
  | bk r' => exact q'
  | ct r' => exact q'
  | rt d => exact q'
def sIf (t : FTx) (f g : FSx) : FSx := fun r => bnd (t r) fun k => if k = true then f r else g r
theorem fs_if {c : Expr} {a b : List Stmt} {t : FTx} {f g : FSx} {pos : Pos} (hc : FT X EE c t) (ha : FSs X EE a f) (hb : FSs X EE b g) : FS X EE (.If c a b pos) (sIf t f g) := by
  refine ps_weak (ps_if hc ha hb) fun T s H ⟨r, G, A, S, hr, hR, q⟩ => ?_
  refine rt_bnd hr hR q (fun _ _ z => z) fun G1 A1 H1 k S1 a1 r1 R1 q1 => ?_
  cases k with
  | true => exact iteT ⟨r, G1, A1, S1, r1, R1, post_on a1 q1 fun _ _ z => z.mono a1⟩
  | false => exact iteF ⟨r, G1, A1, S1, r1, R1, post_on a1 q1 fun _ _ z => z.mono a1⟩
end
end FL
end

section
set_option Elab.async false
set_option linter.all false
set_option maxRecDepth 100000
set_option autoImplicit false
set_option maxHeartbeats 2000000
namespace FL
open PySem PySem.Spec PyProof.Rows L2

/-! ## what is walked -/
abbrev WR := Hp → List Addr → Hp → V → D → Prop
/-- a value that is told; one that can be unpacked -/
def WN (X : Cx) : WR := fun G A _ v d => Dn X.K G A v d
def WU (X : Cx) : WR := fun G A H v d => ∃ a vs ds, v = .ref a ∧ d = .tup ds ∧ SqT X.K H a vs ∧ DnAll X.K G A vs ds
/-- a later state -/
structure Lat (A : List Addr) (G : Hp) (A' : List Addr) (G' : Hp) : Prop where
  g : Same G G'
  p : Pre A A'
theorem Ex.lat {A A' : List Addr} {G G' H H' : Hp} (e : Ex A G H A' G' H') : Lat A G A' G' := ⟨e.g, e.p⟩
theorem Lat.trans {A A1 A2 : List Addr} {G G1 G2 : Hp} (a : Lat A G A1 G1) (b : Lat A1 G1 A2 G2) : Lat A G A2 G2 := ⟨a.g.trans b.g, a.p.trans b.p⟩
structure Yields (X : Cx) (W : WR) (G0 : Hp) (A0 : List Addr) (H0 : Hp) (J : It) (ds : List D) : Prop where
  stop : ∀ G A S H, Lat A0 G0 A G → Rel X.K A S G H → J.stop ds.length H
  go : ∀ G A S H i d, Lat A0 G0 A G → Rel X.K A S G H → ds[i]? = some d → J.go i H
  yld : ∀ G A S H i d x H', Lat A0 G0 A G → Rel X.K A S G H → ds[i]? = some d → J.yld i H x H' → ∃ G', Ex A G H A G' H' ∧ Rel X.K A S G' H' ∧ W G' A H' x d
theorem Yields.mono {X : Cx} {W : WR} {G0 G1 H0 H1 : Hp} {A0 A1 : List Addr} {J : It} {ds : List D} (e : Ex A0 G0 H0 A1 G1 H1) (y : Yields X W G0 A0 H0 J ds) : Yields X W G1 A1 H1 J ds :=
  ⟨fun G A S H a => y.stop G A S H (e.lat.trans a), fun G A S H i d a => y.go G A S H i d (e.lat.trans a), fun G A S H i d x H' a => y.yld G A S H i d x H' (e.lat.trans a)⟩
def RI (X : Cx) (EE : XK) (W : WR) (f : FAx) : TI := fun s H K => ∃ r G A S, EnvR X.K G A s r ∧ Rel X.K A S G H ∧ (f r S).post (fun ds S' => ∀ G' A' H' J, Ex A G H A' G' H' → Rel X.K A' S' G' H' → Yields X W G' A' H' J ds → K J H') (QE X.K X.mg EE G A H)
abbrev FI (X : Cx) (EE : XK) (W : WR) (tg iter : Expr) (f : FAx) : Prop := PI X tg iter (RI X EE W f)
theorem pi_weak {X : Cx} {tg iter : Expr} {t t' : TI} (h : PI X tg iter t) (w : ∀ s H K, t' s H K → t s H K) : PI X tg iter t' := ⟨fun pins s σ H Q I q => h.run pins s σ H Q I (w _ _ _ q)⟩
def RGW (X : Cx) (EE : XK) (W : WR) (f : FGx) : TG := fun v s H Q => ∃ r G A S d, EnvR X.K G A s r ∧ Rel X.K A S G H ∧ W G A H v d ∧ (f d r S).post (QEnv X.K G A H Q) (QE X.K X.mg EE G A H)
abbrev FGW (X : Cx) (EE : XK) (W : WR) (tg : Expr) (f : FGx) : Prop := PG X tg (RGW X EE W f)
section
variable {X : Cx} {EE : XK}
theorem fgw_n {tg : Expr} {f : FGx} (h : FG X EE tg f) : FGW X EE (WN X) tg f := h
theorem fgw_u {es : List Expr} {k : Nat} {g : List D → Env → M Env} {n : Nat} {pos : Pos} (hc : X.calm = true) (h : FGs X EE es g) (hn : (assignEach es X.env).length = n := by rfl) (hst : (assignEach es X.env).findIdx? (·.1) = none := by rfl) : FGW X EE (WU X) (.Tuple es k pos) (gTup' n g) := by
  refine pg_weak (pg_tup hc h hn hst) fun v s H Q ⟨r, G, A, S, d, hr, hR, ⟨a, vs, ds, ev, ed, s1, t1⟩, q⟩ => ?_
  subst ev ed
  unfold gTup' at q
  simp only at q
  split at q
  · rename_i hl
    exact ⟨a, vs, rfl, s1, by rw [t1.length]; exact hl, r, G, A, S, ds, hr, hR, t1, q⟩
  · exact q.elim

/-! ## for -/
def loopD (b : FGx) (body : FSx) : List D → Env → M Fl
  | [], r => ret (.nx r)
  | d :: ds, r => bnd (b d r) fun r1 => bnd (body r1) fun fl => match fl with
    | .nx r' => loopD b body ds r'
    | .ct r' => loopD b body ds r'
    | .bk r' => ret (.nx r')
    | .rt v => ret (.rt v)
def sFor (fi : FAx) (b : FGx) (body : FSx) : FSx := fun r => bnd (fi r) fun ds => loopD b body ds r
theorem fs_for {W : WR} {tg iter : Expr} {body : List Stmt} {fi : FAx} {b : FGx} {fb : FSx} {pos : Pos} (hp : PassesOwn (model X.prog X.w) X.A X.env X.xe) (hc : X.calm = true) (hi : FI X EE W tg iter fi) (hg : FGW X EE W tg b) (hb : FSs X EE body fb)
    (hs : ∀ x, foldedSetIterable iter X.env x = pure x := by intro _; rfl) : FS X EE (.For tg iter body [] pos) (sFor fi b fb) := by
  refine ps_weak (ps_for hp hc hi hg hb hs) fun T s H ⟨r, G, A, S, hr, hR, q⟩ => ?_
  unfold sFor at q
  rw [post_bnd] at q
  refine ⟨r, G, A, S, hr, hR, q.mono (fun ds S1 q1 => ?_) fun _ _ z => z⟩
  intro G1 A1 H1 J e1 R1 Y
  refine ⟨fun i m s H => i + m = ds.length ∧ ∃ r' G' A' S', Ex A1 G1 H1 A' G' H ∧ EnvR X.K G' A' s r' ∧ Rel X.K A' S' G' H ∧ (loopD b fb (ds.drop i) r' S').post (QF X.K G' A' H T) (QE X.K X.mg EE G' A' H),
    ⟨ds.length, Nat.zero_add _, r, G1, A1, S1, Ex.refl, hr.mono e1.g e1.p, R1, post_on e1 q1 fun _ _ z => z.mono e1⟩, ?_⟩
  rintro i m s' H' ⟨hm, r', G', A', S', ex, hr', hR', q'⟩
  by_cases hi : i < ds.length
  · have ed : ds[i]? = some ds[i] := List.getElem?_eq_getElem hi
    rw [List.drop_eq_getElem_cons hi] at q'
    refine .inr ⟨Y.go G' A' S' H' i _ ex.lat hR' ed, fun s2 H2 => ∃ r'' G'' A'' S'', Ex A1 G1 H1 A'' G'' H2 ∧ EnvR X.K G'' A'' s2 r'' ∧ Rel X.K A'' S'' G'' H2 ∧ (loopD b fb (ds.drop (i + 1)) r'' S'').post (QF X.K G'' A'' H2 T) (QE X.K X.mg EE G'' A'' H2),
      fun s2 H2 h2 => ⟨m - 1, by omega, by omega, h2⟩, fun x H2 hy => ?_⟩
    obtain ⟨G2, ex2, R2, w2⟩ := Y.yld G' A' S' H' i _ x H2 ex.lat hR' ed hy
    rw [show loopD b fb (ds[i] :: ds.drop (i + 1)) r' = bnd (b ds[i] r') fun r1 => bnd (fb r1) fun fl => match fl with
      | .nx r' => loopD b fb (ds.drop (i + 1)) r'
      | .ct r' => loopD b fb (ds.drop (i + 1)) r'
      | .bk r' => ret (.nx r')
      | .rt v => ret (.rt v) from rfl, post_bnd] at q'
    refine ⟨r', G2, A', S', ds[i], hr'.mono ex2.g ex2.p, R2, w2, q'.mono (fun r3 S3 q3 => ?_) fun _ _ z => z.mono ex2⟩
    intro G3 A3 H3 s3 e3 R3 hr3
    rw [post_bnd] at q3
    refine ⟨r3, G3, A3, S3, hr3, R3, q3.mono (fun fl S4 q4 => ?_) fun _ _ z => z.mono (ex2.trans e3)⟩
    have again : ∀ r4, (loopD b fb (ds.drop (i + 1)) r4 S4).post (QF X.K G' A' H' T) (QE X.K X.mg EE G' A' H') → QEnv X.K G3 A3 H3 (fun s2 H2 => ∃ r'' G'' A'' S'', Ex A1 G1 H1 A'' G'' H2 ∧ EnvR X.K G'' A'' s2 r'' ∧ Rel X.K A'' S'' G'' H2 ∧ (loopD b fb (ds.drop (i + 1)) r'' S'').post (QF X.K G'' A'' H2 T) (QE X.K X.mg EE G'' A'' H2)) r4 S4 := by
      intro r4 q4 G4 A4 H4 s4 e4 R4 hr4
      have all := (ex2.trans e3).trans e4
      exact ⟨r4, G4, A4, S4, ex.trans all, hr4, R4, post_on all q4 fun _ _ z => z.mono all⟩
    cases fl with
    | nx r4 => exact again r4 q4
    | ct r4 => exact again r4 q4
    | bk r4 => exact QEnv.mono (ex2.trans e3) q4
    | rt d => exact QV.mono (ex2.trans e3) q4
  · have ei : i = ds.length := by omega
    rw [List.drop_of_length_le (by omega)] at q'
    refine .inl ⟨ei ▸ Y.stop G' A' S' H' ex.lat hR', q' G' A' H' s' Ex.refl hR' hr'⟩

/-! ## while -/
def whileN (t : FTx) (body : FSx) : Nat → Env → M Fl
  | 0, _ => fun _ => .no
  | n + 1, r => bnd (t r) fun k => if k = true then bnd (body r) fun fl => match fl with
    | .nx r' => whileN t body n r'
    | .ct r' => whileN t body n r'
    | .bk r' => ret (.nx r')
    | .rt v => ret (.rt v) else ret (.nx r)
/-- the outcome of enough turns -/
noncomputable def sWhile (t : FTx) (body : FSx) : FSx := fun r S => open Classical in if h : ∃ n, whileN t body n r S ≠ .no then whileN t body h.choose r S else .no
theorem fs_while {c : Expr} {body : List Stmt} {t : FTx} {fb : FSx} {pos : Pos} (hp : PassesOwn (model X.prog X.w) X.A X.env X.xe) (hc : FT X EE c t) (hb : FSs X EE body fb) : FS X EE (.While c body [] pos) (sWhile t fb) := by
  refine ps_weak (ps_while hp hc hb) fun T s H ⟨r, G, A, S, hr, hR, q⟩ => ?_
  unfold sWhile at q
  split at q
  · rename_i h
    refine ⟨fun m s H => ∃ r' G' A' S', EnvR X.K G' A' s r' ∧ Rel X.K A' S' G' H ∧ (whileN t fb m r' S').post (QF X.K G' A' H T) (QE X.K X.mg EE G' A' H), ⟨_, r, G, A, S, hr, hR, q⟩, ?_⟩
    rintro m s' H' ⟨r', G', A', S', hr', hR', q'⟩
    cases m with
    | zero => exact q'.elim
    | succ m =>
      refine rt_bnd hr' hR' q' (fun _ _ z => z) fun G1 A1 H1 k S1 a1 r1 R1 q1 => ?_
      cases k with
      | true =>
        rw [if_pos rfl] at q1 ⊢
        rw [post_bnd] at q1
        refine ⟨fun s2 H2 => ∃ r'' G'' A'' S'', EnvR X.K G'' A'' s2 r'' ∧ Rel X.K A'' S'' G'' H2 ∧ (whileN t fb m r'' S'').post (QF X.K G'' A'' H2 T) (QE X.K X.mg EE G'' A'' H2), fun s2 H2 h2 => ⟨m, Nat.lt_succ_self _, h2⟩, r', G1, A1, S1, r1, R1, ?_⟩
        refine q1.mono (fun fl S2 q2 => ?_) fun _ _ z => z.mono a1
        have again : ∀ r4, (whileN t fb m r4 S2).post (QF X.K G' A' H' T) (QE X.K X.mg EE G' A' H') → QEnv X.K G1 A1 H1 (fun s2 H2 => ∃ r'' G'' A'' S'', EnvR X.K G'' A'' s2 r'' ∧ Rel X.K A'' S'' G'' H2 ∧ (whileN t fb m r'' S'').post (QF X.K G'' A'' H2 T) (QE X.K X.mg EE G'' A'' H2)) r4 S2 := by
          intro r4 q4 G4 A4 H4 s4 e4 R4 hr4
          exact ⟨r4, G4, A4, S2, hr4, R4, post_on (a1.trans e4) q4 fun _ _ z => z.mono (a1.trans e4)⟩
        cases fl with
        | nx r4 => exact again r4 q2
        | ct r4 => exact again r4 q2
        | bk r4 => exact QEnv.mono a1 q2
        | rt d => exact QV.mono a1 q2
      | false =>
        rw [if_neg Bool.false_ne_true] at q1 ⊢
        exact q1 G1 A1 H1 s' a1 R1 r1
  · exact q.elim
end
end FL
end

section
set_option Elab.async false
set_option linter.all false
set_option maxRecDepth 100000
set_option autoImplicit false
set_option maxHeartbeats 2000000
namespace FL
open PySem PySem.Spec PyProof.Rows L2

/-! ## comprehensions -/
def wipeE (r : Env) : List Nat → Env
  | [] => r
  | v :: vs => (wipeE r vs).set v none
theorem wipeE_length (r : Env) : ∀ vs : List Nat, (wipeE r vs).length = r.length
  | [] => rfl
  | v :: vs => by unfold wipeE; rw [List.length_set, wipeE_length r vs]
theorem envR_wipe {K : PySem.W.Frag} {G : Hp} {A : List Addr} {s : L2.St} {r : Env} (h : EnvR K G A s r) : ∀ vs : List Nat, EnvR K G A (wipe s vs) (wipeE r vs)
  | [] => h
  | v :: vs => by
    have ih := envR_wipe h vs
    refine ⟨by rw [wipe_length, wipeE_length]; exact h.1, fun i d e => ?_⟩
    unfold wipeE at e
    unfold wipe
    by_cases hi : v = i
    · subst hi
      by_cases hv : v < (wipeE r vs).length
      · rw [List.getElem?_set_self hv] at e; cases e
      · rw [List.getElem?_eq_none (by simpa using hv)] at e; cases e
    · rw [List.getElem?_set_ne hi] at e ⊢
      exact ih.2 i d e
theorem wipe_set {s : L2.St} {i : Nat} {o : Option V} : ∀ {vs : List Nat}, i ∈ vs → wipe (s.set i o) vs = wipe s vs
  | [], h => by cases h
  | v :: vs, h => by
    unfold wipe
    by_cases hi : i ∈ vs
    · rw [wipe_set hi]
    · have hv : i = v := by
        rcases List.mem_cons.mp h with e | e
        · exact e
        · exact absurd e hi
      subst hv
      have key : ∀ ws : List Nat, i ∉ ws → wipe (s.set i o) ws = (wipe s ws).set i o := by
        intro ws
        induction ws with
        | nil => intro _; rfl
        | cons w ws ih =>
          intro hn
          have h1 : w ≠ i := fun z => hn (z ▸ List.mem_cons_self)
          unfold wipe
          rw [ih fun z => hn (List.mem_cons_of_mem _ z), List.set_comm _ _ (Ne.symm h1)]
      rw [key vs hi, List.set_set]
/-- a target within a comprehension: only its own slots are stored -/
def RGc (X : Cx) (W : WR) (vs : List Nat) (f : FGx) : TG := fun v s H Q => ∃ r G A S d, EnvR X.K G A s r ∧ Rel X.K A S G H ∧ W G A H v d ∧
  (f d r S).post (fun r' S' => ∀ G' A' H' s', Ex A G H A' G' H' → Rel X.K A' S' G' H' → EnvR X.K G' A' s' r' → wipe s' vs = wipe s vs → Q s' H') (fun _ _ => False)
def RGcs (X : Cx) (vs : List Nat) (f : List D → Env → M Env) : TGs := fun ws s H Q => ∃ r G A S ds, EnvR X.K G A s r ∧ Rel X.K A S G H ∧ DnAll X.K G A ws ds ∧
  (f ds r S).post (fun r' S' => ∀ G' A' H' s', Ex A G H A' G' H' → Rel X.K A' S' G' H' → EnvR X.K G' A' s' r' → wipe s' vs = wipe s vs → Q s' H') (fun _ _ => False)
section
variable {X : Cx} {EE : XK}
theorem fgc_name {i : Nat} {vs : List Nat} {tg : Expr} (h : PG X tg (gName i)) (hv : i ∈ vs := by decide) : PG X tg (RGc X (WN X) vs (gName' i)) := by
  refine pg_weak h fun v s H Q ⟨r, G, A, S, d, hr, hR, hd, q⟩ => ?_
  exact q G A H _ Ex.refl hR (hr.set hd) (wipe_set hv)
theorem fgcs_nil {vs : List Nat} : PGs X [] (RGcs X vs gsNil) := by
  refine pgs_weak pgs_nil fun ws s H Q ⟨r, G, A, S, ds, hr, hR, hd, q⟩ => ?_
  unfold gsNil at q
  cases hd with
  | nil => exact ⟨rfl, q G A H _ Ex.refl hR hr rfl⟩
  | cons a b => exact q.elim
theorem fgcs_cons {vs : List Nat} {e : Expr} {es : List Expr} {f : FGx} {g : List D → Env → M Env} (h1 : PG X e (RGc X (WN X) vs f)) (h2 : PGs X es (RGcs X vs g))
    (hs : (assignEach (e :: es) X.env).map (·.2) = assign e X.env :: (assignEach es X.env).map (·.2) := by rfl) : PGs X (e :: es) (RGcs X vs (gsCons f g)) := by
  refine pgs_weak (pgs_cons h1 h2 hs) fun ws s H Q ⟨r, G, A, S, ds, hr, hR, hd, q⟩ => ?_
  cases hd with
  | nil => exact q.elim
  | @cons v ws d ds a b =>
    refine ⟨v, ws, rfl, ?_⟩
    rw [show gsCons f g (d :: ds) r = bnd (f d r) fun r' => g ds r' from rfl, post_bnd] at q
    refine ⟨r, G, A, S, d, hr, hR, a, q.mono (fun r' S' q' => ?_) fun _ _ z => z⟩
    intro G1 A1 H1 s1 a1 R1 e1 w1
    refine ⟨r', G1, A1, S', ds, e1, R1, b.mono a1.g a1.p, q'.mono (fun r2 S2 q2 => ?_) fun _ _ z => z⟩
    intro G2 A2 H2 s2 a2 R2 e2 w2
    exact q2 G2 A2 H2 s2 (a1.trans a2) R2 e2 (w2.trans w1)
theorem fgc_u {vs : List Nat} {es : List Expr} {k : Nat} {g : List D → Env → M Env} {n : Nat} {pos : Pos} (hc : X.calm = true) (h : PGs X es (RGcs X vs g)) (hn : (assignEach es X.env).length = n := by rfl) (hst : (assignEach es X.env).findIdx? (·.1) = none := by rfl) : PG X (.Tuple es k pos) (RGc X (WU X) vs (gTup' n g)) := by
  refine pg_weak (pg_tup hc h hn hst) fun v s H Q ⟨r, G, A, S, d, hr, hR, ⟨a, ws, ds, ev, ed, s1, t1⟩, q⟩ => ?_
  subst ev ed
  unfold gTup' at q
  simp only at q
  split at q
  · rename_i hl
    exact ⟨a, ws, rfl, s1, by rw [t1.length]; exact hl, r, G, A, S, ds, hr, hR, t1, q⟩
  · exact q.elim
theorem wn_wu {vs : List Nat} {tg : Expr} {n : Nat} {g : List D → Env → M Env} (h : PG X tg (RGc X (WU X) vs (gTup' n g))) : PG X tg (RGc X (WN X) vs (gTup' n g)) := by
  refine pg_weak h fun v s H Q ⟨r, G, A, S, d, hr, hR, hd, q⟩ => ?_
  cases d with
  | tup ds =>
    obtain ⟨a, ws, rfl, s1, t1⟩ := (Dv.of hd : Dv X.K G A H v (.tup ds)).tupE hR
    exact ⟨r, G, A, S, .tup ds, hr, hR, ⟨a, ws, ds, rfl, rfl, s1.sq, t1⟩, q⟩
  | _ => exact q.elim
def RTs (X : Cx) (f : FTx) : TT := RT X E0 f
abbrev FTs (X : Cx) (ifs : List Expr) (f : FTx) : Prop := PTs X ifs (RT X E0 f)
def tTrue : FTx := fun _ => ret true
theorem fts_nil : FTs X [] tTrue := ⟨fun pins s σ H Q I ⟨r, G, A, S, hr, hR, q⟩ => pts_nil.run pins s σ H Q I (q G A H Ex.refl hR)⟩
theorem fts_one {c : Expr} {t : FTx} (h : FT X E0 c t) : FTs X [c] t := pts_one h
/-- nothing is raised -/
def noEx {α : Type} (m : M α) : M α := fun S => match m S with
  | .ok a S' => .ok a S'
  | _ => .no
theorem post_noEx {α : Type} {m : M α} {S : Sto} {Q : α → Sto → Prop} {E E' : Exn → Sto → Prop} (h : (noEx m S).post Q E) : (m S).post Q E' := by
  unfold noEx at h
  cases e : m S with
  | ok a S' => rw [e] at h; exact h
  | ex x S' => rw [e] at h; exact h.elim
  | no => rw [e] at h; exact h.elim
def compD (b : FGx) (t : FTx) (e : FEx) (r0 : Env) : List D → List D → M (List D)
  | [], acc => ret acc
  | d :: ds, acc => bnd (noEx (b d r0)) fun r1 => bnd (noEx (t r1)) fun k => if k = true then bnd (noEx (e r1)) fun x => if acc.length < 1000000 then compD b t e r0 ds (acc ++ [x]) else fun _ => .no else compD b t e r0 ds acc
def eCompL (vs : List Nat) (fi : FAx) (b : FGx) (t : FTx) (e : FEx) : FAx := fun r => bnd (fi r) fun ds => compD b t e (wipeE r vs) ds []
/-- the one loop of a comprehension -/
theorem comp_loop {W : WR} {vs : List Nat} {b : FGx} {t : FTx} {e : FEx} {s : L2.St} {r : Env} {ds : List D} {G1 H1 : Hp} {A1 : List Addr} {J : It} {L : Addr} {PQ : List D → Sto → Prop} {PE' : Exn → Sto → Prop} {Qd : Hp → Prop}
    (hr : EnvR X.K G1 A1 s r) (hL0 : H1 L = none) (Y : Yields X W G1 A1 H1 J ds)
    (fin : ∀ G' A' H' S' acc accv, Ex A1 G1 H1 A' G' H' → L ∉ A' → G' L = none → H' L = some (.lst accv) → DnAll X.K G' A' accv acc → Rel X.K A' S' G' H' → PQ acc S' → Qd H') :
    ∀ (i : Nat) (H : Hp), i ≤ ds.length → (∃ G' A' S' acc accv, Ex A1 G1 H1 A' G' H ∧ L ∉ A' ∧ G' L = none ∧ H L = some (.lst accv) ∧ DnAll X.K G' A' accv acc ∧ Rel X.K A' S' G' H ∧ (compD b t e (wipeE r vs) (ds.drop i) acc S').post PQ PE') →
      (J.stop i H ∧ Qd H) ∨ (J.go i H ∧ i < ds.length ∧ ∀ x H', J.yld i H x H' → RGc X W vs b x (wipe s vs) H' fun s2 H2 => wipe s2 vs = wipe s vs ∧ RT X E0 t s2 H2 fun k H3 =>
        if k = true then RE X E0 e s2 H3 fun y H4 => ∃ acc, H4 L = some (.lst acc) ∧ acc.length < sizeLine ∧
          (∃ G' A' S' ac accv, Ex A1 G1 H1 A' G' (upd H4 L (.lst (acc ++ [y]))) ∧ L ∉ A' ∧ G' L = none ∧ upd H4 L (.lst (acc ++ [y])) L = some (.lst accv) ∧ DnAll X.K G' A' accv ac ∧ Rel X.K A' S' G' (upd H4 L (.lst (acc ++ [y]))) ∧ (compD b t e (wipeE r vs) (ds.drop (i + 1)) ac S').post PQ PE')
        else (∃ G' A' S' acc accv, Ex A1 G1 H1 A' G' H3 ∧ L ∉ A' ∧ G' L = none ∧ H3 L = some (.lst accv) ∧ DnAll X.K G' A' accv acc ∧ Rel X.K A' S' G' H3 ∧ (compD b t e (wipeE r vs) (ds.drop (i + 1)) acc S').post PQ PE')) := by
  rintro i H hle ⟨G', A', S', acc, accv, ex, hL, gL, HL, na, hR', q'⟩
  by_cases hi : i < ds.length
  · have ed : ds[i]? = some ds[i] := List.getElem?_eq_getElem hi
    rw [List.drop_eq_getElem_cons hi] at q'
    refine .inr ⟨Y.go G' A' S' H i _ ex.lat hR' ed, hi, fun x H2 hy => ?_⟩
    obtain ⟨G2, ex2, R2, w2⟩ := Y.yld G' A' S' H i _ x H2 ex.lat hR' ed hy
    rw [show compD b t e (wipeE r vs) (ds[i] :: ds.drop (i + 1)) acc = bnd (noEx (b ds[i] (wipeE r vs))) fun r1 => bnd (noEx (t r1)) fun k => if k = true then bnd (noEx (e r1)) fun x => if acc.length < 1000000 then compD b t e (wipeE r vs) (ds.drop (i + 1)) (acc ++ [x]) else fun _ => .no else compD b t e (wipeE r vs) (ds.drop (i + 1)) acc from rfl, post_bnd] at q'
    have ex12 := ex.trans ex2
    refine ⟨wipeE r vs, G2, A', S', ds[i], (envR_wipe hr vs).mono ex12.g ex12.p, R2, w2, (post_noEx q').mono (fun r3 S3 q3 => ?_) fun _ _ z => z⟩
    intro G3 A3 H3 s3 e3 R3 hr3 hw3
    have hw : wipe (wipe s vs) vs = wipe s vs := by
      clear hw3 hr3 q'
      have key : ∀ ws us : List Nat, (∀ x ∈ us, x ∈ ws) → wipe (wipe s us) ws = wipe s ws := by
        intro ws us
        induction us with
        | nil => intro _; rfl
        | cons u us ih =>
          intro hm
          have e1 : wipe s (u :: us) = (wipe s us).set u none := rfl
          rw [e1, wipe_set (hm u List.mem_cons_self), ih fun x hx => hm x (List.mem_cons_of_mem _ hx)]
      exact key vs vs fun x hx => hx
    refine ⟨hw3.trans hw, ?_⟩
    rw [post_bnd] at q3
    refine ⟨r3, G3, A3, S3, hr3, R3, (post_noEx q3).mono (fun k S4 q4 => ?_) fun _ _ z => z⟩
    intro G4 A4 H4 e4 R4
    have e24 := (ex2.trans e3).trans e4
    obtain ⟨n4, L4⟩ := e24.f L _ hL HL
    have g4 := e24.k L _ HL gL
    cases k with
    | true =>
      rw [if_pos rfl] at q4 ⊢
      rw [post_bnd] at q4
      refine ⟨r3, G4, A4, S4, hr3.mono e4.g e4.p, R4, (post_noEx q4).mono (fun d5 S5 q5 => ?_) fun _ _ z => z⟩
      intro G5 A5 H5 y e5 R5 n5
      obtain ⟨nL5, L5⟩ := e5.f L _ n4 L4
      have g5 := e5.k L _ L4 g4
      split at q5
      · rename_i hlen
        have e25 := e24.trans e5
        have hl : accv.length < sizeLine := by
          rw [na.length]
          exact Nat.lt_of_lt_of_le hlen (by decide)
        refine ⟨accv, L5, hl, G5, A5, S5, acc ++ [d5], accv ++ [y], (ex.trans e25).beside hL0 _, nL5, g5, upd_same, (na.mono e25.g e25.p).append (.cons n5 .nil), R5.beside g5 nL5 _, q5⟩
      · exact q5.elim
    | false =>
      rw [if_neg Bool.false_ne_true] at q4 ⊢
      exact ⟨G4, A4, S4, acc, accv, ex.trans e24, n4, g4, L4, na.mono e24.g e24.p, R4, q4⟩
  · rw [List.drop_of_length_le (by omega)] at q'
    have ei : i = ds.length := by omega
    exact .inl ⟨ei ▸ Y.stop G' A' S' H ex.lat hR', fin G' A' H S' acc accv ex hL gL HL na hR' q'⟩

/-- [e for target in iter if tests] -/
def eComp (vs : List Nat) (fi : FAx) (b : FGx) (t : FTx) (e : FEx) : FEx := fun r => bnd (eCompL vs fi b t e r) fun xs => ret (.lst xs)
def eCompM (vs : List Nat) (fi : FAx) (b : FGx) (t : FTx) (e : FEx) : FEx := fun r => bnd (eCompL vs fi b t e r) fun xs => fun S => .ok (.ref S.length) (S ++ [.lst xs])
theorem to_comp {W : WR} {vs : List Nat} {fi : FAx} {b : FGx} {t : FTx} {e : FEx} {s : L2.St} {H : Hp} {Q : VK} {r : Env} {G : Hp} {A : List Addr} {S : Sto} {P : D → Sto → Prop} {k : List D → M D} (hr : EnvR X.K G A s r) (hR : Rel X.K A S G H)
    (q : (bnd (eCompL vs fi b t e r) k S).post P (QE X.K X.mg EE G A H))
    (fin : ∀ G1 A1 H1 S1 L G' A' H' acc accv, Ex A G H A1 G1 H1 → H1 L = none → Ex A1 G1 H1 A' G' H' → L ∉ A' → G' L = none → H' L = some (.lst accv) → DnAll X.K G' A' accv acc → Rel X.K A' S1 G' H' → (k acc S1).post P (QE X.K X.mg EE G A H) → Q (.ref L) H') :
    tLc (RI X EE W fi) (RGc X W vs b) (RT X E0 t) (RE X E0 e) vs s H Q := by
  unfold eCompL at q
  rw [post_bnd, post_bnd] at q
  refine ⟨r, G, A, S, hr, hR, q.mono (fun ds S1 q1 => ?_) fun _ _ z => z⟩
  intro G1 A1 H1 J e1 R1 Y L hL
  refine ⟨fun i m Hh => i + m = ds.length ∧ ∃ G' A' S' acc accv, Ex A1 G1 H1 A' G' Hh ∧ L ∉ A' ∧ G' L = none ∧ Hh L = some (.lst accv) ∧ DnAll X.K G' A' accv acc ∧ Rel X.K A' S' G' Hh ∧ (compD b t e (wipeE r vs) (ds.drop i) acc S').post (fun acc S' => (k acc S').post P (QE X.K X.mg EE G A H)) (QE X.K X.mg EE G A H),
    ⟨ds.length, Nat.zero_add _, G1, A1, S1, [], [], Ex.refl.beside hL _, R1.notin hL, R1.free hL, upd_same, .nil, R1.beside (R1.free hL) (R1.notin hL) _, q1⟩, ?_⟩
  rintro i m H' ⟨hm, st⟩
  rcases comp_loop (Qd := fun H' => Q (.ref L) H') (hr.mono e1.g e1.p) hL Y (fun G' A' H' S' acc accv a1 a2 a3 a4 a5 a6 a7 => fin G1 A1 H1 S' L G' A' H' acc accv e1 hL a1 a2 a3 a4 a5 a6 a7) i H' (by omega) st with h | ⟨go, hi, h⟩
  · exact .inl h
  · exact .inr ⟨go, _, fun H2 h2 => ⟨m - 1, by omega, by omega, h2⟩, h⟩
section
variable {W : WR} {elt tg iter : Expr} {ifs : List Expr} {scope : Scope} {own : List (Str × Nat)} {pos : Pos} {fi : FAx} {b : FGx} {t : FTx} {e : FEx}
theorem fe_comp (hc : X.calm = true) (hN : X.N.Nodup) (hi : FI X EE W tg iter fi) (ok : BlkOk X.N X.env.scope scope own)
    (hg : ∀ (s : Shared) (H : Hp) (C : Addr) (cl : List (Str × Addr)) (fp : List Addr), PG (X.blk s H scope (compEnvC scope cl C X.env) fp) tg (RGc X W (own.map (·.2)) b))
    (ht : ∀ (s : Shared) (H : Hp) (C : Addr) (cl : List (Str × Addr)) (fp : List Addr), FTs (X.blk s H scope (compEnvC scope cl C X.env) fp) ifs t)
    (he : ∀ (s : Shared) (H : Hp) (C : Addr) (cl : List (Str × Addr)) (fp : List Addr), FE (X.blk s H scope (compEnvC scope cl C X.env) fp) E0 elt e) (hs : ∀ x, foldedSetIterable iter X.env x = pure x := by intro _; rfl) :
    FE X EE (.ListComp elt [⟨tg, iter, ifs, 0⟩] scope pos) (eComp (own.map (·.2)) fi b t e) := by
  refine pe_weak (pe_lc (tt := RT X E0 t) (te := RE X E0 e) hc hN hi ok hg ht he hs) fun s H Q ⟨r, G, A, S, hr, hR, q⟩ => ?_
  refine to_comp hr hR q fun G1 A1 H1 S1 L G' A' H' acc accv e1 hL ex nL gL HL na R' q' => ?_
  exact q' _ A' H' _ ((e1.trans (ex.freeze hL gL _))) (R'.freeze gL nL HL) (.lst (.inl (.of upd_same)) (na.mono (upd_same_of gL) (Pre.refl _)))
theorem fe_compM (hc : X.calm = true) (hN : X.N.Nodup) (hi : FI X EE W tg iter fi) (ok : BlkOk X.N X.env.scope scope own)
    (hg : ∀ (s : Shared) (H : Hp) (C : Addr) (cl : List (Str × Addr)) (fp : List Addr), PG (X.blk s H scope (compEnvC scope cl C X.env) fp) tg (RGc X W (own.map (·.2)) b))
    (ht : ∀ (s : Shared) (H : Hp) (C : Addr) (cl : List (Str × Addr)) (fp : List Addr), FTs (X.blk s H scope (compEnvC scope cl C X.env) fp) ifs t)
    (he : ∀ (s : Shared) (H : Hp) (C : Addr) (cl : List (Str × Addr)) (fp : List Addr), FE (X.blk s H scope (compEnvC scope cl C X.env) fp) E0 elt e) (hs : ∀ x, foldedSetIterable iter X.env x = pure x := by intro _; rfl) :
    FE X EE (.ListComp elt [⟨tg, iter, ifs, 0⟩] scope pos) (eCompM (own.map (·.2)) fi b t e) := by
  refine pe_weak (pe_lc (tt := RT X E0 t) (te := RE X E0 e) hc hN hi ok hg ht he hs) fun s H Q ⟨r, G, A, S, hr, hR, q⟩ => ?_
  refine to_comp hr hR q fun G1 A1 H1 S1 L G' A' H' acc accv e1 hL ex nL gL HL na R' q' => ?_
  refine q' G' (A' ++ [L]) H' _ (e1.trans (ex.own hL)) (R'.own gL nL (by rw [HL]; simp) ⟨accv, HL, na.mono (Same.refl _) (Pre.app _ _)⟩) (.ref ?_)
  rw [← R'.len]
  simp
/-- y = [..], y a local -/
theorem fs_setComp {i : Nat} {y : Str} {py spos : Pos} (hc : X.calm = true) (hN : X.N.Nodup) (hy : X.N[i]? = some y) (hyl : X.env.scope.names.lookup y = some .local)
    (hsw : swapsWith (.ListComp elt [⟨tg, iter, ifs, 0⟩] scope pos) (some (.Name y py)) spos.line X.env = pure true) (hi : FI X EE W tg iter fi) (ok : BlkOk X.N X.env.scope scope own)
    (hg : ∀ (s : Shared) (H : Hp) (C : Addr) (cl : List (Str × Addr)) (fp : List Addr), PG (X.blk s H scope (compEnvC scope cl C X.env) fp) tg (RGc X W (own.map (·.2)) b))
    (ht : ∀ (s : Shared) (H : Hp) (C : Addr) (cl : List (Str × Addr)) (fp : List Addr), FTs (X.blk s H scope (compEnvC scope cl C X.env) fp) ifs t)
    (he : ∀ (s : Shared) (H : Hp) (C : Addr) (cl : List (Str × Addr)) (fp : List Addr), FE (X.blk s H scope (compEnvC scope cl C X.env) fp) E0 elt e) (hs : ∀ x, foldedSetIterable iter X.env x = pure x := by intro _; rfl) :
    FS X EE (.Assign [.Name y py] (.ListComp elt [⟨tg, iter, ifs, 0⟩] scope pos) spos) (sAsg (eComp (own.map (·.2)) fi b t e) (gName' i)) := by
  refine ps_weak (ps_setLc (tt := RT X E0 t) (te := RE X E0 e) hc hN hy hyl hsw hi ok hg ht he hs) fun T s H ⟨r, G, A, S, hr, hR, q⟩ => ?_
  unfold sAsg eComp at q
  rw [post_bnd, post_bnd] at q
  have q' : (bnd (eCompL (own.map (·.2)) fi b t e r) (fun xs => ret (.lst xs)) S).post (fun d S' => (bnd (gName' i d r) (fun r' => ret (.nx r')) S').post (QF X.K G A H T) (QE X.K X.mg EE G A H)) (QE X.K X.mg EE G A H) := by
    rw [post_bnd]
    exact q
  refine to_comp hr hR q' fun G1 A1 H1 S1 L G' A' H' acc accv e1 hL ex nL gL HL na R' q2 => ?_
  have e2 := e1.trans (ex.freeze hL gL (.lst accv))
  exact q2 _ A' H' _ e2 (R'.freeze gL nL HL) ((hr.mono e2.g e2.p).set (.lst (.inl (.of upd_same)) (na.mono (upd_same_of gL) (Pre.refl _))))
theorem fs_setCompM {i : Nat} {y : Str} {py spos : Pos} (hc : X.calm = true) (hN : X.N.Nodup) (hy : X.N[i]? = some y) (hyl : X.env.scope.names.lookup y = some .local)
    (hsw : swapsWith (.ListComp elt [⟨tg, iter, ifs, 0⟩] scope pos) (some (.Name y py)) spos.line X.env = pure true) (hi : FI X EE W tg iter fi) (ok : BlkOk X.N X.env.scope scope own)
    (hg : ∀ (s : Shared) (H : Hp) (C : Addr) (cl : List (Str × Addr)) (fp : List Addr), PG (X.blk s H scope (compEnvC scope cl C X.env) fp) tg (RGc X W (own.map (·.2)) b))
    (ht : ∀ (s : Shared) (H : Hp) (C : Addr) (cl : List (Str × Addr)) (fp : List Addr), FTs (X.blk s H scope (compEnvC scope cl C X.env) fp) ifs t)
    (he : ∀ (s : Shared) (H : Hp) (C : Addr) (cl : List (Str × Addr)) (fp : List Addr), FE (X.blk s H scope (compEnvC scope cl C X.env) fp) E0 elt e) (hs : ∀ x, foldedSetIterable iter X.env x = pure x := by intro _; rfl) :
    FS X EE (.Assign [.Name y py] (.ListComp elt [⟨tg, iter, ifs, 0⟩] scope pos) spos) (sAsg (eCompM (own.map (·.2)) fi b t e) (gName' i)) := by
  refine ps_weak (ps_setLc (tt := RT X E0 t) (te := RE X E0 e) hc hN hy hyl hsw hi ok hg ht he hs) fun T s H ⟨r, G, A, S, hr, hR, q⟩ => ?_
  unfold sAsg eCompM at q
  rw [post_bnd, post_bnd] at q
  have q' : (bnd (eCompL (own.map (·.2)) fi b t e r) (fun xs => fun S => .ok (.ref S.length) (S ++ [.lst xs])) S).post (fun d S' => (bnd (gName' i d r) (fun r' => ret (.nx r')) S').post (QF X.K G A H T) (QE X.K X.mg EE G A H)) (QE X.K X.mg EE G A H) := by
    rw [post_bnd]
    exact q
  refine to_comp hr hR q' fun G1 A1 H1 S1 L G' A' H' acc accv e1 hL ex nL gL HL na R' q2 => ?_
  have e2 := e1.trans (ex.own hL)
  refine q2 G' (A' ++ [L]) H' _ e2 (R'.own gL nL (by rw [HL]; simp) ⟨accv, HL, na.mono (Same.refl _) (Pre.app _ _)⟩) ((hr.mono e2.g e2.p).set (.ref ?_))
  rw [← R'.len]
  simp
end
end
end FL
end

section
set_option Elab.async false
set_option linter.all false
set_option maxRecDepth 100000
set_option autoImplicit false
set_option maxHeartbeats 2000000
namespace FL
open PySem PySem.Spec PyProof.Rows L2

/-! ## enumerate of a tuple -/
theorem meets_enumerate_newT (l : Addr) (items : Array Value) (n : Nat) (dct : Option Addr) (sl : Array (Option Value)) :
    Meets (Builtin.«enumerate.__new__» ⟨[.type "enumerate", .ref l], []⟩) (fun _ R s => s.heap.get? l = some { cls := .type "tuple", dict := dct, data := .seq items n, slots := sl } ∧
      R (.ok (.ret (.ref (s.heap.push { cls := .type "tuple_iterator", data := .fields #[.ref l, .int 0 0] }).objs.size)))
        { s with heap := (s.heap.push { cls := .type "tuple_iterator", data := .fields #[.ref l, .int 0 0] }).push { cls := .type "enumerate", data := .fields #[.none, .bool false, .ref s.heap.objs.size, rawInt 0, .none, .none] } }) :=
  .of_wp fun prog w A R s h => by
    obtain ⟨hp, g, d, tk, os⟩ := s; obtain ⟨hl, h⟩ := h
    have hsub := sub_enumerate
    have hL : Heap.IsTuple (Shared.heap ⟨hp, g, d, tk, os⟩) l items := ⟨_, hl, rfl, n, rfl⟩
    wp_walk using AutoSeq1.wpAny_loadPart' hl
    refine wpAny_stack_any fun st => wpAny_pure ?_
    split
    · rename_i c _ _ _ _ _
      cases (c == Value.type "enumerate")
      · wp_walk using AutoSeq1.wpAny_loadPart' hl, wpAny_pyIter_tuple hL
        exact ⟨_, rfl, h⟩
      · wp_walk using AutoSeq1.wpAny_loadPart' hl, wpAny_pyIter_tuple hL
        exact ⟨_, rfl, h⟩
    · wp_walk using AutoSeq1.wpAny_loadPart' hl, wpAny_pyIter_tuple hL
      exact ⟨_, rfl, h⟩
theorem call_enumerate_tuple {prog : Program} {w : World} {A : Around} {E : Value → Shared → Prop} {s : Shared} {l : Addr} {items : Array Value} {Q : Value → Shared → Prop} (hL : s.heap.IsTuple l items)
    (h : ∀ h', IsEnum h' (s.heap.objs.size + 1) s.heap.objs.size 0 .none → h'.IsTupleIter s.heap.objs.size l 0 → h'.objs.size = s.heap.objs.size + 2 →
      (∀ b o, s.heap.get? b = some o → h'.get? b = some o) → Q (.ref (s.heap.objs.size + 1)) { s with heap := h' }) :
    wpAny (model prog w) A (call (.type "enumerate") [.ref l]) Q E s := by
  obtain ⟨⟨c, dct, dt, sl⟩, hl, hc, n, hd⟩ := hL
  replace hc : c = .type "tuple" := hc
  replace hd : dt = .seq items n := hd
  subst hc hd
  refine callType_new F.called_enumerate (by decide) (F.typeCall_enumerate_1 _) (F.newCall_enumerate_1 _) (fun obj => F.args_object_init_2 obj _) F.entry_enumerate_new
    (meets_enumerate_newT l items n dct sl) ⟨hl, ?_⟩
  have hz : (s.heap.push { cls := .type "tuple_iterator", data := .fields #[.ref l, .int 0 0] }).objs.size = s.heap.objs.size + 1 := Heap.size_push ..
  show _ ∧ _
  rw [hz]
  have he : IsEnum ((s.heap.push { cls := .type "tuple_iterator", data := .fields #[.ref l, .int 0 0] }).push
      { cls := .type "enumerate", data := .fields #[.none, .bool false, .ref s.heap.objs.size, rawInt 0, .none, .none] }) (s.heap.objs.size + 1) s.heap.objs.size 0 .none := by
    have := Heap.get?_push_size (s.heap.push { cls := .type "tuple_iterator", data := .fields #[.ref l, .int 0 0] })
      (o := { cls := .type "enumerate", data := .fields #[.none, .bool false, .ref s.heap.objs.size, rawInt 0, .none, .none] }) rfl
    rw [hz] at this; exact this
  refine ⟨⟨_, he, rfl⟩, h _ he ⟨_, Heap.get?_push_of_some _ (Heap.get?_push_size _ rfl), rfl, rfl⟩ (by rw [Heap.size_push, hz]) fun b o x => Heap.get?_push_of_some _ (Heap.get?_push_of_some _ x)⟩
/-- the tuple at a, with the places -/
def ItEt (K : PySem.W.Frag) (a : Addr) : It :=
  ⟨fun i H => ∃ (xs : List V) (x : V), SqT K H a xs ∧ xs[i]? = some x, fun i H v H' => ∃ T x, v = .ref T ∧ H T = none ∧ H' = upd H T (.tup [.int (i : Nat), x]) ∧ ∀ xs, SqT K H a xs → xs[i]? = some x, fun i H => ∃ xs : List V, SqT K H a xs ∧ xs.length = i⟩
theorem turn_enumT {P : Program} {w : World} {K : PySem.W.Frag} {elts : List Expr} {kk : Nat} {tpos : Pos} (a e it : Addr) (hai : a ≠ it) (hea : e ≠ a) :
    Turn P w K (.Tuple elts kk tpos) (ItEt K a) [e, it] e (fun i h => (∃ old, IsEnum h e it ((i : Nat) : Int) old) ∧ h.IsTupleIter it a i ∧ e ≠ it) where
  mem := by simp
  obj := fun i h st b hb => by
    obtain ⟨⟨old, he⟩, ⟨o, ho, hc, hd⟩, _⟩ := st
    have e' : b = e ∨ b = it := by simpa using hb
    rcases e' with z | z
    · rw [z]; exact ⟨_, he, fun v q => nomatch q⟩
    · rw [z]; exact ⟨o, ho, fun v q => by rw [hd] at q; cases q⟩
  keep := fun i h h' st k => let ⟨⟨old, he⟩, hi, hne⟩ := st; ⟨⟨old, k e (by simp) _ he⟩, hi.at fun o q => k it (by simp) o q, hne⟩
  item := by
    intro X hP hw hK hc i pins s σ H E I hf st hg
    subst hP hw hK
    obtain ⟨⟨old, he⟩, hit, hne⟩ := st
    obtain ⟨xs, x, hq, hx⟩ := hg
    obtain ⟨its, rv, p, hz⟩ := I.tuple hq
    obtain ⟨u, hu, ru⟩ := rv.get hx
    have hel : e < s.heap.objs.size := Heap.lt_size he
    have hil : it < s.heap.objs.size := by obtain ⟨_, q, _⟩ := hit; exact Heap.lt_size q
    have hi' : i < its.toArray.size := by
      have := (List.getElem?_eq_some_iff.mp hu).1
      simpa using this
    refine wpAny_pyNext_enum_itemD (Draws.tuple (A := X.A.in1) (I.ok.hd hc) it a hai its.toArray) he ⟨hit, p⟩ hi' hne (by simp [hne, hea]) fun y h' tk hy ho hit' hT hsz hk => ?_
    have ey : y = u := by
      have e1 : its.toArray[i]? = some u := by simpa using hu
      exact Option.some.inj (hy.symm.trans e1)
    subst ey
    refine ⟨_, rfl, wpAny_letOwnedTupleGo_enum (s := { s with heap := h', toks := tk + 1 }) ho fun h'' he' sb => ?_⟩
    have hT2 : h''.get? s.heap.objs.size = some { cls := .type "tuple", data := .seq #[.int i tk, y] } := (sb.2 _ (Nat.ne_of_gt hel)).trans hT
    have new : ObjOk X.prog X.w (upd H s.heap.objs.size (.tup [.int (i : Nat), x])) h'' s.heap.objs.size (.tup [.int (i : Nat), x]) :=
      ⟨by show 2 ≤ sizeLine; decide, [.int i tk, y], .cons ⟨_, rfl⟩ (.cons ru .nil), ⟨_, hT2, rfl, _, rfl⟩⟩
    have I1 : Inv X pins σ (upd H s.heap.objs.size (.tup [.int (i : Nat), x])) { s with heap := h'', toks := tk + 1 } :=
      I.turnedNew (ch := [e, it]) (fun b ob hb q => (sb.2 b (fun z => hb (by simp [z]))).trans (hk b ob (fun z => hb (by simp [z])) (fun z => hb (by simp [z])) q)) hf (Nat.le_refl _) new
    refine ⟨.ref s.heap.objs.size, _, I1, rfl, ⟨_, x, rfl, I.hok.fresh (Nat.le_refl _), rfl, fun ys hy => by rw [I.tuple_inj hy hq]; exact hx⟩, ⟨⟨y, ?_⟩, hit'.1.at fun o q => (sb.2 it (Ne.symm hne)).trans q, hne⟩, fun b hb => ?_⟩
    · have e1 : ((i + 1 : Nat) : Int) = (i : Int) + 1 := by omega
      rw [e1]; exact he'
    · have hb' : b < s.heap.objs.size := by
        have e' : b = e ∨ b = it := by simpa using hb
        rcases e' with z | z
        · rw [z]; exact hel
        · rw [z]; exact hil
      rw [upd_ne (Nat.ne_of_lt hb')]
      exact (hf b hb).1
  done := by
    intro X hP hw hK hc i pins s σ H E I hf st hg
    subst hP hw hK
    obtain ⟨⟨old, he⟩, hit, hne⟩ := st
    obtain ⟨xs, hq, hx⟩ := hg
    obtain ⟨its, rv, p, hz⟩ := I.tuple hq
    obtain ⟨f0, f1, f2, f3, f4, f5⟩ := hf it (by simp)
    have hl := rv.length
    have ei : i = its.toArray.size := by simp; omega
    subst ei
    exact wpAny_pyNext_enum_endD (Draws.tuple (A := X.A.in1) (I.ok.hd hc) it a hai its.toArray) he ⟨hit, p⟩ fun h' eb => ⟨rfl, I.turned (t' := s.toks) (fun b o hb q => eb b o hb q) f0 f1 f3 f4 f5⟩
  self := fun A i s Q E st h => let ⟨⟨_, he⟩, _⟩ := st; wpAny_pyIter_enum he h

def iEnumA (K : PySem.W.Frag) (ta : TA) : TI := fun σ H R => ta σ H fun vs H1 => ∃ a xs, vs = [.ref a] ∧ ((SqL K H1 a xs ∧ R (Ite K a) H1) ∨ (SqT K H1 a xs ∧ R (ItEt K a) H1))
theorem pi_enumA {X : Cx} {e : Expr} {ta : TA} {p pos tpos : Pos} {elts : List Expr} {kk : Nat} (hg : Gl X "enumerate") (hm : X.mg "enumerate" = none) (ha : PA X [e] ta) (hs : starEach [e] X.env = [(false, eval e X.env)] := by rfl) :
    PI X (.Tuple elts kk tpos) (.Call (.Name "enumerate" p) [e] [] pos) (iEnumA X.K ta) := by
  refine ⟨fun pins s σ H R I h => ?_⟩
  refine Call_ (ld_blt I hg hm boot_enumerate (PyProof.Rows.callWith_type1 (thn (ha.run pos pins s σ H _ I h) fun us s1 ⟨vs, H1, I1, r1, q1⟩ => ?_) hs rfl))
  obtain ⟨a, xs, ex, q1⟩ := q1
  subst ex
  cases r1 with
  | cons r rr =>
    cases rr
    cases r
    have fresh2 : ∀ b, b ∈ [s1.heap.objs.size + 1, s1.heap.objs.size] → FpOk X pins H1 b := fun b hb => by
      have e' : b = s1.heap.objs.size + 1 ∨ b = s1.heap.objs.size := by simpa using hb
      have hle : s1.heap.objs.size ≤ b := by
        rcases e' with z | z
        · rw [z]; exact Nat.le_add_right _ _
        · rw [z]; exact Nat.le_refl _
      exact I1.fpOk hle (I1.hok.fresh hle)
    rcases q1 with ⟨hq, q⟩ | ⟨hq, q⟩
    · obtain ⟨its, rv, p', hz⟩ := I1.list hq
      refine call_enumerate_list p'.isList fun h' he hit hsz hk => wpAny_pyIter_enum he ?_
      have I2 : Inv X pins σ H1 { s1 with heap := h' } := I1.kept (t' := s1.toks) hk
      exact ⟨s1.heap.objs.size + 1, [s1.heap.objs.size + 1, s1.heap.objs.size], _, _, H1, rfl, I2, turn_enum a (s1.heap.objs.size + 1) s1.heap.objs.size, ⟨⟨.none, he⟩, hit, Nat.succ_ne_self _⟩, fresh2, q⟩
    · obtain ⟨its, rv, p', hz⟩ := I1.tuple hq
      have hal : a < s1.heap.objs.size := by obtain ⟨o, ho, _⟩ := p'; exact Heap.lt_size ho
      refine call_enumerate_tuple (show s1.heap.IsTuple a its.toArray from p') fun h' he hit hsz hk => wpAny_pyIter_enum he ?_
      have I2 : Inv X pins σ H1 { s1 with heap := h' } := I1.kept (t' := s1.toks) hk
      exact ⟨s1.heap.objs.size + 1, [s1.heap.objs.size + 1, s1.heap.objs.size], _, _, H1, rfl, I2, turn_enumT a (s1.heap.objs.size + 1) s1.heap.objs.size (Nat.ne_of_lt hal) (Nat.ne_of_gt (Nat.lt_succ_of_lt hal)), ⟨⟨.none, he⟩, hit, Nat.succ_ne_self _⟩, fresh2, q⟩
/-- a list, a tuple or a text, whichever it is -/
def iSeq (K : PySem.W.Frag) (tl : TE) : TI := fun σ H R => tl σ H fun x H1 => (∃ a xs, x = .ref a ∧ SqL K H1 a xs ∧ R (Itl K a) H1) ∨ (∃ a xs, x = .ref a ∧ SqT K H1 a xs ∧ R (Itt K a) H1) ∨ ∃ z, x = .str z ∧ R (Its z) H1
theorem pi_seq {X : Cx} {tg l : Expr} {tl : TE} (hl : PE X l tl) : PI X tg l (iSeq X.K tl) := by
  refine ⟨fun pins s σ H R I h => ?_⟩
  refine thn (hl.run pins s σ H _ I h) fun v s1 ⟨x, H1, I1, r1, q1⟩ => ?_
  have fr : ∀ b, b ∈ [s1.heap.objs.size] → FpOk X pins H1 b := fun b hb => by
    have e : b = s1.heap.objs.size := by simpa using hb
    subst e
    exact I1.fpOk (Nat.le_refl _) (I1.hok.fresh (Nat.le_refl _))
  rcases q1 with ⟨a, xs, e, hq, q⟩ | ⟨a, xs, e, hq, q⟩ | ⟨z, e, q⟩
  · subst e
    cases r1
    obtain ⟨its, rv, p, hz⟩ := I1.list hq
    refine wpAny_pyIter_list p.isList ?_
    exact ⟨s1.heap.objs.size, [s1.heap.objs.size], _, _, H1, rfl, I1.kept (t' := s1.toks) fun b o e => Heap.get?_push_of_some _ e, turn_list a _, ⟨_, Heap.get?_push_size _ rfl, rfl, rfl⟩, fr, q⟩
  · subst e
    cases r1
    obtain ⟨its, rv, p, hz⟩ := I1.tuple hq
    refine wpAny_pyIter_tuple (show s1.heap.IsTuple a its.toArray from p) ?_
    exact ⟨s1.heap.objs.size, [s1.heap.objs.size], _, _, H1, rfl, I1.kept (t' := s1.toks) fun b o e => Heap.get?_push_of_some _ e, turn_tuple a _, ⟨_, Heap.get?_push_size _ rfl, rfl, rfl⟩, fr, q⟩
  · subst e
    obtain ⟨t, rfl⟩ := r1
    cases ha : z.cps.all (· < 128)
    · exact wpAny_pyIter_wide ha (pi_one (tk := s1.toks) I1 _ (turn_str _ z t "str_iterator" (.inr rfl)) ⟨_, Heap.get?_push_size _ rfl, rfl, rfl⟩ q)
    · exact wpAny_pyIter_ascii ha (pi_one (tk := s1.toks) I1 _ (turn_str _ z t "str_ascii_iterator" (.inl rfl)) ⟨_, Heap.get?_push_size _ rfl, rfl, rfl⟩ q)

/-! ## the same by data -/
/-- what can be walked as it stands: no thing that may change -/
def itemsD : D → Option (List D)
  | .lst xs => some xs
  | .tup xs => some xs
  | .str x => some (x.cps.toList.map fun c => .str ⟨#[c]⟩)
  | _ => none
section
variable {X : Cx} {EE : XK}
theorem y_list {G0 H0 : Hp} {A0 : List Addr} {S0 : Sto} {a : Addr} {vs : List V} {ds : List D} (R0 : Rel X.K A0 S0 G0 H0) (s : LAt X.K G0 a vs) (t : DnAll X.K G0 A0 vs ds) : Yields X (WN X) G0 A0 H0 (Itl X.K a) ds := by
  refine ⟨fun G A S H e R => ⟨vs, (sql_same R.sub (sql_same e.g s)).sq, by rw [t.length]; exact Nat.le_refl _⟩, fun G A S H i d e R hd => ?_, fun G A S H i d x H' e R hd hy => ?_⟩
  · obtain ⟨v, ev, _⟩ := t.get hd
    exact ⟨vs, v, (sql_same R.sub (sql_same e.g s)).sq, ev⟩
  · obtain ⟨eH, hx⟩ := hy
    obtain ⟨v, ev, nv⟩ := t.get hd
    have ex := hx vs (sql_same R.sub (sql_same e.g s)).sq
    rw [ev] at ex
    cases ex
    rw [eH]
    exact ⟨G, Ex.refl, R, nv.mono e.g e.p⟩
theorem y_tup {G0 H0 : Hp} {A0 : List Addr} {S0 : Sto} {a : Addr} {vs : List V} {ds : List D} (R0 : Rel X.K A0 S0 G0 H0) (s : TupAt X.K G0 a vs) (t : DnAll X.K G0 A0 vs ds) : Yields X (WN X) G0 A0 H0 (Itt X.K a) ds := by
  refine ⟨fun G A S H e R => ⟨vs, ((s.same e.g).same R.sub).sq, by rw [t.length]; exact Nat.le_refl _⟩, fun G A S H i d e R hd => ?_, fun G A S H i d x H' e R hd hy => ?_⟩
  · obtain ⟨v, ev, _⟩ := t.get hd
    exact ⟨vs, v, ((s.same e.g).same R.sub).sq, ev⟩
  · obtain ⟨eH, hx⟩ := hy
    obtain ⟨v, ev, nv⟩ := t.get hd
    have ex := hx vs ((s.same e.g).same R.sub).sq
    rw [ev] at ex
    cases ex
    rw [eH]
    exact ⟨G, Ex.refl, R, nv.mono e.g e.p⟩
theorem y_str {G0 H0 : Hp} {A0 : List Addr} {z : Str} (ok : PyData.strOk z = true) : Yields X (WN X) G0 A0 H0 (Its z) (z.cps.toList.map fun c => .str ⟨#[c]⟩) := by
  refine ⟨fun G A S H e R => by show z.cps.size ≤ _; simp, fun G A S H i d e R hd => ?_, fun G A S H i d x H' e R hd hy => ?_⟩
  · show i < z.cps.size
    have := (List.getElem?_eq_some_iff.mp hd).1
    simpa using this
  · obtain ⟨eH, c, hc, ex⟩ := hy
    subst ex
    rw [eH]
    rw [List.getElem?_map] at hd
    obtain ⟨c', hc', rfl⟩ := Option.map_eq_some_iff.mp hd
    have e1 : z.cps[i]? = some c' := by simpa using hc'
    rw [hc] at e1
    cases e1
    exact ⟨G, Ex.refl, R, .str _ (strOk_one ok (List.mem_of_getElem? hc'))⟩
theorem y_range {G0 H0 : Hp} {A0 : List Addr} (lo : Int) (n : Nat) : Yields X (WN X) G0 A0 H0 (Itr lo n) ((List.range n).map fun i => .int (lo + (i : Nat))) := by
  refine ⟨fun G A S H e R => by show n ≤ _; simp, fun G A S H i d e R hd => ?_, fun G A S H i d x H' e R hd hy => ?_⟩
  · show i < n
    have := (List.getElem?_eq_some_iff.mp hd).1
    simpa using this
  · obtain ⟨eH, ex⟩ := hy
    subst ex
    rw [eH]
    rw [List.getElem?_map] at hd
    obtain ⟨c', hc', rfl⟩ := Option.map_eq_some_iff.mp hd
    have e1 : c' = i := by
      obtain ⟨h1, h2⟩ := List.getElem?_eq_some_iff.mp hc'
      rw [← h2]; simp
    subst e1
    exact ⟨G, Ex.refl, R, .int _⟩
def iSeqD (f : FEx) : FAx := fun r => bnd (f r) fun d => opt (itemsD d)
theorem fi_seq {tg l : Expr} {f : FEx} (h : FE X EE l f) : FI X EE (WN X) tg l (iSeqD f) := by
  refine pi_weak (pi_seq h) fun s H K ⟨r, G, A, S, hr, hR, q⟩ => ?_
  refine re_bnd hr hR q (fun _ _ z => z) fun G1 A1 H1 x d S1 a1 r1 R1 n1 q1 => ?_
  rw [post_opt] at q1
  obtain ⟨ds, hd, q1⟩ := q1
  cases d with
  | lst xs =>
    cases hd
    cases n1 with
    | lst s t => exact .inl ⟨_, _, rfl, (sql_same R1.sub s).sq, q1 G1 A1 H1 _ a1 R1 (y_list R1 s t)⟩
  | tup xs =>
    cases hd
    cases n1 with
    | tup s t => exact .inr (.inl ⟨_, _, rfl, (s.same R1.sub).sq, q1 G1 A1 H1 _ a1 R1 (y_tup R1 s t)⟩)
  | str z =>
    cases hd
    cases n1 with
    | str _ o => exact .inr (.inr ⟨z, rfl, q1 G1 A1 H1 _ a1 R1 (y_str o)⟩)
  | _ => cases hd
def smallR (i : Int) : Bool := decide (-(1000000) ≤ i ∧ i ≤ 1000000)
def rangeD1 : List D → Option (List D) := one fun d => on1 D.int? d fun j => guard' (smallR j) ((List.range j.toNat).map fun i => .int (0 + (i : Nat)))
def rangeD2 : List D → Option (List D) := two fun d e => on2 D.int? D.int? d e fun i j => guard' (smallR i && smallR j) ((List.range (j - i).toNat).map fun k => .int (i + (k : Nat)))
def iRange (g : List D → Option (List D)) (f : FAx) : FAx := fun r => bnd (f r) fun ds => opt (g ds)
theorem fi_range1 {tg a : Expr} {f : FAx} {p pos : Pos} (hg : Gl X "range") (hm : X.mg "range" = none) (ha : FA X EE [a] f) (hs : starEach [a] X.env = [(false, eval a X.env)] := by rfl) : FI X EE (WN X) tg (.Call (.Name "range" p) [a] [] pos) (iRange rangeD1 f) := by
  refine pi_weak (pi_range1 hg hm ha hs) fun s H K ⟨r, G, A, S, hr, hR, q⟩ => ?_
  refine ra_bnd hr hR q (fun _ _ z => z) fun G1 A1 H1 vs ds S1 a1 r1 R1 n1 q1 => ?_
  rw [post_opt] at q1
  obtain ⟨xs, hd, q1⟩ := q1
  obtain ⟨d, rfl, hk⟩ := one_eq hd
  obtain ⟨j, hj, hg⟩ := on1_eq hk
  clear hd hk
  cases D.int?_eq hj
  obtain ⟨rfl, hc⟩ := guard_eq hg
  have hb := of_decide_eq_true hc
  cases n1 with
  | cons n1 n2 =>
    cases n2
    cases n1
    exact ⟨j, rfl, by omega, by omega, q1 G1 A1 H1 _ a1 R1 (y_range 0 j.toNat)⟩
theorem fi_range2 {tg a b : Expr} {f : FAx} {p pos : Pos} (hg : Gl X "range") (hm : X.mg "range" = none) (ha : FA X EE [a, b] f) (hs : starEach [a, b] X.env = [(false, eval a X.env), (false, eval b X.env)] := by rfl) (hs2 : starEach [b] X.env = [(false, eval b X.env)] := by rfl) : FI X EE (WN X) tg (.Call (.Name "range" p) [a, b] [] pos) (iRange rangeD2 f) := by
  refine pi_weak (pi_range2 hg hm ha hs hs2) fun s H K ⟨r, G, A, S, hr, hR, q⟩ => ?_
  refine ra_bnd hr hR q (fun _ _ z => z) fun G1 A1 H1 vs ds S1 a1 r1 R1 n1 q1 => ?_
  rw [post_opt] at q1
  obtain ⟨xs, hd, q1⟩ := q1
  obtain ⟨d, e, rfl, hk⟩ := two_eq hd
  obtain ⟨i, j, hi, hj, hg⟩ := on2_eq hk
  clear hd hk
  cases D.int?_eq hi
  cases D.int?_eq hj
  obtain ⟨rfl, hc⟩ := guard_eq hg
  obtain ⟨c1, c2⟩ := Bool.and_eq_true_iff.mp hc
  have b1 := of_decide_eq_true c1
  have b2 := of_decide_eq_true c2
  cases n1 with
  | cons n1 n2 =>
    cases n2 with
    | cons n2 n3 =>
      cases n3
      cases n1
      cases n2
      exact ⟨i, j, rfl, ⟨by omega, by omega, by omega, by omega⟩, q1 G1 A1 H1 _ a1 R1 (y_range i (j - i).toNat)⟩
end
end FL
end

section
set_option Elab.async false
set_option linter.all false
set_option maxRecDepth 100000
set_option autoImplicit false
set_option maxHeartbeats 2000000
namespace FL
open PySem PySem.Spec PyProof.Rows L2
section
variable {X : Cx} {EE : XK}
/-! ## enumerate, zip -/
/-- a pair just made -/
theorem pair_new {G H : Hp} {A : List Addr} {S : Sto} {T : Addr} {x y : V} {d e : D} (R : Rel X.K A S G H) (hT : H T = none) (hx : Dn X.K G A x d) (hy : Dn X.K G A y e) :
    ∃ G', Ex A G H A G' (upd H T (.tup [x, y])) ∧ Rel X.K A S G' (upd H T (.tup [x, y])) ∧ WU X G' A (upd H T (.tup [x, y])) (.ref T) (.tup [d, e]) := by
  have ee := R.exNew hT (.tup [x, y])
  exact ⟨_, ee, R.new hT _, T, [x, y], [d, e], rfl, rfl, .of upd_same, .cons (hx.mono ee.g ee.p) (.cons (hy.mono ee.g ee.p) .nil)⟩
def enumL (ds : List D) : List D := (List.range ds.length).zipWith (fun (i : Nat) d => .tup [.int (i : Nat), d]) ds
theorem enumL_get {ds : List D} {i : Nat} {d : D} (h : (enumL ds)[i]? = some d) : ∃ e, ds[i]? = some e ∧ d = .tup [.int (i : Nat), e] := by
  unfold enumL at h
  rw [List.getElem?_zipWith] at h
  cases h1 : ds[i]? with
  | none => rw [h1] at h; simp at h
  | some e =>
    have hi := (List.getElem?_eq_some_iff.mp h1).1
    have h2 : (List.range ds.length)[i]? = some i := by simp [hi]
    rw [h1, h2] at h
    cases h
    exact ⟨e, rfl, rfl⟩
theorem enumL_length (ds : List D) : (enumL ds).length = ds.length := by simp [enumL]
theorem y_enumL {G0 H0 : Hp} {A0 : List Addr} {a : Addr} {vs : List V} {ds : List D} (s : LAt X.K G0 a vs) (t : DnAll X.K G0 A0 vs ds) : Yields X (WU X) G0 A0 H0 (Ite X.K a) (enumL ds) := by
  refine ⟨fun G A S H e R => ⟨vs, (sql_same R.sub (sql_same e.g s)).sq, by rw [t.length, enumL_length]; exact Nat.le_refl _⟩, fun G A S H i d e R hd => ?_, fun G A S H i d x H' e R hd hy => ?_⟩
  · obtain ⟨d', hd', _⟩ := enumL_get hd
    obtain ⟨v, ev, _⟩ := t.get hd'
    exact ⟨vs, v, (sql_same R.sub (sql_same e.g s)).sq, ev⟩
  · obtain ⟨d', hd', rfl⟩ := enumL_get hd
    obtain ⟨T, w, rfl, hT, rfl, hx⟩ := hy
    obtain ⟨v, ev, nv⟩ := t.get hd'
    have ex := hx vs (sql_same R.sub (sql_same e.g s)).sq
    rw [ev] at ex
    cases ex
    exact pair_new R hT (.int _) (nv.mono e.g e.p)
theorem y_enumT {G0 H0 : Hp} {A0 : List Addr} {a : Addr} {vs : List V} {ds : List D} (s : TupAt X.K G0 a vs) (t : DnAll X.K G0 A0 vs ds) : Yields X (WU X) G0 A0 H0 (ItEt X.K a) (enumL ds) := by
  refine ⟨fun G A S H e R => ⟨vs, ((s.same e.g).same R.sub).sq, by rw [t.length, enumL_length]⟩, fun G A S H i d e R hd => ?_, fun G A S H i d x H' e R hd hy => ?_⟩
  · obtain ⟨d', hd', _⟩ := enumL_get hd
    obtain ⟨v, ev, _⟩ := t.get hd'
    exact ⟨vs, v, ((s.same e.g).same R.sub).sq, ev⟩
  · obtain ⟨d', hd', rfl⟩ := enumL_get hd
    obtain ⟨T, w, rfl, hT, rfl, hx⟩ := hy
    obtain ⟨v, ev, nv⟩ := t.get hd'
    have ex := hx vs ((s.same e.g).same R.sub).sq
    rw [ev] at ex
    cases ex
    exact pair_new R hT (.int _) (nv.mono e.g e.p)
def iEnumD (f : FAx) : FAx := fun r => bnd (f r) fun ds => opt (one (fun d => (alt d.lst? d.tup?).map enumL) ds)
theorem alt_seq {d : D} {xs : List D} (h : alt d.lst? d.tup? = some xs) : d = .lst xs ∨ d = .tup xs := by
  rcases alt_eq h with h | h
  · exact .inl (D.lst?_eq h)
  · exact .inr (D.tup?_eq h)
theorem fi_enum {e : Expr} {f : FAx} {p pos tpos : Pos} {elts : List Expr} {kk : Nat} (hg : Gl X "enumerate") (hm : X.mg "enumerate" = none) (ha : FA X EE [e] f) (hs : starEach [e] X.env = [(false, eval e X.env)] := by rfl) :
    FI X EE (WU X) (.Tuple elts kk tpos) (.Call (.Name "enumerate" p) [e] [] pos) (iEnumD f) := by
  refine pi_weak (pi_enumA hg hm ha hs) fun s H K ⟨r, G, A, S, hr, hR, q⟩ => ?_
  refine ra_bnd hr hR q (fun _ _ z => z) fun G1 A1 H1 vs ds S1 a1 r1 R1 n1 q1 => ?_
  rw [post_opt] at q1
  obtain ⟨xs, hd, q1⟩ := q1
  obtain ⟨d, rfl, hk⟩ := one_eq hd
  obtain ⟨ys, hy, rfl⟩ := Option.map_eq_some_iff.mp hk
  cases n1 with
  | cons n1 n2 =>
    cases n2
    rcases alt_seq hy with rfl | rfl
    · cases n1 with
      | lst s t => exact ⟨_, _, rfl, .inl ⟨(sql_same R1.sub s).sq, q1 G1 A1 H1 _ a1 R1 (y_enumL s t)⟩⟩
    · cases n1 with
      | tup s t => exact ⟨_, _, rfl, .inr ⟨(s.same R1.sub).sq, q1 G1 A1 H1 _ a1 R1 (y_enumT s t)⟩⟩
def zipL (xs ys : List D) : List D := xs.zipWith (fun d e => .tup [d, e]) ys
theorem zipL_get {xs ys : List D} {i : Nat} {d : D} (h : (zipL xs ys)[i]? = some d) : ∃ e f, xs[i]? = some e ∧ ys[i]? = some f ∧ d = .tup [e, f] := by
  unfold zipL at h
  rw [List.getElem?_zipWith] at h
  cases h1 : xs[i]? with
  | none => rw [h1] at h; simp at h
  | some e =>
    cases h2 : ys[i]? with
    | none => rw [h1, h2] at h; simp at h
    | some f => rw [h1, h2] at h; cases h; exact ⟨e, f, rfl, rfl, rfl⟩
theorem y_zipL {G0 H0 : Hp} {A0 : List Addr} {a b : Addr} {vs ws : List V} {ds es : List D} (s : LAt X.K G0 a vs) (t : DnAll X.K G0 A0 vs ds) (s2 : LAt X.K G0 b ws) (t2 : DnAll X.K G0 A0 ws es) : Yields X (WU X) G0 A0 H0 (Itz X.K a b) (zipL ds es) := by
  refine ⟨fun G A S H e R => ⟨vs, ws, (sql_same R.sub (sql_same e.g s)).sq, (sql_same R.sub (sql_same e.g s2)).sq, ?_⟩, fun G A S H i d e R hd => ?_, fun G A S H i d x H' e R hd hy => ?_⟩
  · rw [t.length, t2.length]
    simp only [zipL, List.length_zipWith]
    omega
  · obtain ⟨d1, d2, h1, h2, _⟩ := zipL_get hd
    obtain ⟨v, ev, _⟩ := t.get h1
    obtain ⟨v2, ev2, _⟩ := t2.get h2
    exact ⟨vs, ws, v, v2, (sql_same R.sub (sql_same e.g s)).sq, (sql_same R.sub (sql_same e.g s2)).sq, ev, ev2⟩
  · obtain ⟨d1, d2, h1, h2, rfl⟩ := zipL_get hd
    obtain ⟨T, w, w2, rfl, hT, rfl, hx, hy⟩ := hy
    obtain ⟨v, ev, nv⟩ := t.get h1
    obtain ⟨v2, ev2, nv2⟩ := t2.get h2
    have ex := hx vs (sql_same R.sub (sql_same e.g s)).sq
    have ey := hy ws (sql_same R.sub (sql_same e.g s2)).sq
    rw [ev] at ex
    rw [ev2] at ey
    cases ex
    cases ey
    exact pair_new R hT (nv.mono e.g e.p) (nv2.mono e.g e.p)
theorem y_zipT {G0 H0 : Hp} {A0 : List Addr} {a b : Addr} {vs ws : List V} {ds es : List D} (s : TupAt X.K G0 a vs) (t : DnAll X.K G0 A0 vs ds) (s2 : TupAt X.K G0 b ws) (t2 : DnAll X.K G0 A0 ws es) : Yields X (WU X) G0 A0 H0 (RZ.ItzT X.K a b) (zipL ds es) := by
  refine ⟨fun G A S H e R => ⟨vs, ws, ((s.same e.g).same R.sub).sq, ((s2.same e.g).same R.sub).sq, ?_⟩, fun G A S H i d e R hd => ?_, fun G A S H i d x H' e R hd hy => ?_⟩
  · rw [t.length, t2.length]
    simp only [zipL, List.length_zipWith]
    omega
  · obtain ⟨d1, d2, h1, h2, _⟩ := zipL_get hd
    obtain ⟨v, ev, _⟩ := t.get h1
    obtain ⟨v2, ev2, _⟩ := t2.get h2
    exact ⟨vs, ws, v, v2, ((s.same e.g).same R.sub).sq, ((s2.same e.g).same R.sub).sq, ev, ev2⟩
  · obtain ⟨d1, d2, h1, h2, rfl⟩ := zipL_get hd
    obtain ⟨T, w, w2, rfl, hT, rfl, hx, hy⟩ := hy
    obtain ⟨v, ev, nv⟩ := t.get h1
    obtain ⟨v2, ev2, nv2⟩ := t2.get h2
    have ex := hx vs ((s.same e.g).same R.sub).sq
    have ey := hy ws ((s2.same e.g).same R.sub).sq
    rw [ev] at ex
    rw [ev2] at ey
    cases ex
    cases ey
    exact pair_new R hT (nv.mono e.g e.p) (nv2.mono e.g e.p)
def zipD : List D → Option (List D) := two fun d e => alt (on2 D.lst? D.lst? d e fun xs ys => some (zipL xs ys)) (on2 D.tup? D.tup? d e fun xs ys => some (zipL xs ys))
theorem fi_zip {e e2 : Expr} {f : FAx} {p pos tpos : Pos} {elts : List Expr} {kk : Nat} (hg : Gl X "zip") (hm : X.mg "zip" = none) (ha : FA X EE [e, e2] f)
    (hs : starEach [e, e2] X.env = (false, eval e X.env) :: starEach [e2] X.env := by rfl) (hpl : (backTo pos (starEach [e2] X.env)).any (·.1) = false := by rfl) :
    FI X EE (WU X) (.Tuple elts kk tpos) (.Call (.Name "zip" p) [e, e2] [] pos) (iRange zipD f) := by
  refine pi_weak (RZ.pi_zipA hg hm ha hs hpl) fun s H K ⟨r, G, A, S, hr, hR, q⟩ => ?_
  refine ra_bnd hr hR q (fun _ _ z => z) fun G1 A1 H1 vs ds S1 a1 r1 R1 n1 q1 => ?_
  rw [post_opt] at q1
  obtain ⟨xs, hd, q1⟩ := q1
  obtain ⟨d, d2, rfl, hk⟩ := two_eq hd
  clear hd
  cases n1 with
  | cons n1 n2 =>
    cases n2 with
    | cons n2 n3 =>
      cases n3
      replace hk := alt_eq hk
      rcases hk with hk | hk
      · obtain ⟨ys, zs, h1, h2, h3⟩ := on2_eq hk
        clear hk
        cases D.lst?_eq h1
        cases D.lst?_eq h2
        cases h3
        cases n1 with
        | lst s t => cases n2 with
          | lst s2 t2 => exact ⟨_, _, _, _, rfl, .inl ⟨(sql_same R1.sub s).sq, (sql_same R1.sub s2).sq, q1 G1 A1 H1 _ a1 R1 (y_zipL s t s2 t2)⟩⟩
      · obtain ⟨ys, zs, h1, h2, h3⟩ := on2_eq hk
        clear hk
        cases D.tup?_eq h1
        cases D.tup?_eq h2
        cases h3
        cases n1 with
        | tup s t => cases n2 with
          | tup s2 t2 => exact ⟨_, _, _, _, rfl, .inr ⟨(s.same R1.sub).sq, (s2.same R1.sub).sq, q1 G1 A1 H1 _ a1 R1 (y_zipT s t s2 t2)⟩⟩

/-! ## starred parts of a display -/
def aStar (f : FEx) (g : FAx) : FAx := fun r => bnd (f r) fun x => bnd (fun S => opt (alt (vw S x).tup? (vw S x).lst?) S) fun xs => bnd (g r) fun ys => ret (xs ++ ys)
theorem fa_star {e : Expr} {es : List Expr} {f : FEx} {g : FAx} {p : Pos} (h : FE X EE e f) (ht : FA X EE es g) (hs : starEach (.Starred e p :: es) X.env = (true, eval e X.env) :: starEach es X.env := by rfl) : FA X EE (.Starred e p :: es) (aStar f g) := by
  refine pa_weak (StX.pa_star h ht hs) fun s H Q ⟨r, G, A, S, hr, hR, q⟩ => ?_
  refine re_bnd hr hR q (fun _ _ z => z) fun G1 A1 H1 x d S1 a1 r1 R1 n1 q1 => ?_
  rw [post_bnd, post_opt] at q1
  obtain ⟨ds, hd, q1⟩ := q1
  have vx := R1.view n1
  have key : ∃ p xs, x = V.ref p ∧ (SqT X.K H1 p xs ∨ SqL X.K H1 p xs) ∧ DnAll X.K G1 A1 xs ds := by
    rcases alt_eq hd with h | h
    · rw [D.tup?_eq h] at vx
      obtain ⟨a, vs, rfl, s1, t1⟩ := vx.tupE R1
      exact ⟨a, vs, rfl, .inl s1.sq, t1⟩
    · rw [D.lst?_eq h] at vx
      obtain ⟨a, vs, rfl, s1, t1⟩ := vx.lstE R1
      exact ⟨a, vs, rfl, .inr s1.sq, t1⟩
  obtain ⟨p, xs, rfl, hx, t1⟩ := key
  refine ⟨p, xs, rfl, hx, ?_⟩
  refine ra_bnd r1 R1 q1 (fun _ _ z => z.mono a1) fun G2 A2 H2 ys es S2 a2 r2 R2 n2 q2 => ?_
  exact q2 G2 A2 H2 _ (a1.trans a2) R2 ((t1.mono a2.g a2.p).append n2)

/-! ## tables by data -/
def putD (kvs : List (Key × D)) (k : Key) (v : D) : List (Key × D) :=
  if (kvs.any fun kv => decide (kv.1 = k)) = true then kvs.map (fun kv => if kv.1 = k then (kv.1, v) else kv) else kvs ++ [(k, v)]
def mergeD (kvs more : List (Key × D)) : List (Key × D) := more.foldl (fun acc kv => putD acc kv.1 kv.2) kvs
section
variable {K : PySem.W.Frag} {G : Hp} {A : List Addr}
theorem DnKV.any (k : Key) : ∀ {vs : List (Key × V)} {ds : List (Key × D)}, DnKV K G A vs ds → (vs.any fun kv => decide (kv.1 = k)) = ds.any fun kv => decide (kv.1 = k)
  | _, _, .nil => rfl
  | _, _, .cons _ b => by simp [DnKV.any k b]
theorem DnKV.repl (k : Key) {y : V} {e : D} (h : Dn K G A y e) : ∀ {vs : List (Key × V)} {ds : List (Key × D)}, DnKV K G A vs ds →
    DnKV K G A (vs.map fun kv => if kv.1 = k then (kv.1, y) else kv) (ds.map fun kv => if kv.1 = k then (kv.1, e) else kv)
  | _, _, .nil => .nil
  | _, _, .cons (k := j) a b => by
    rw [List.map_cons, List.map_cons]
    by_cases hj : j = k
    · rw [if_pos hj, if_pos hj]; exact .cons h (DnKV.repl k h b)
    · rw [if_neg hj, if_neg hj]; exact .cons a (DnKV.repl k h b)
theorem DnKV.snoc (k : Key) {y : V} {e : D} (h : Dn K G A y e) : ∀ {vs : List (Key × V)} {ds : List (Key × D)}, DnKV K G A vs ds → DnKV K G A (vs ++ [(k, y)]) (ds ++ [(k, e)])
  | _, _, .nil => .cons h .nil
  | _, _, .cons a b => .cons a (DnKV.snoc k h b)
theorem DnKV.put (k : Key) {y : V} {e : D} (h : Dn K G A y e) {vs : List (Key × V)} {ds : List (Key × D)} (t : DnKV K G A vs ds) : DnKV K G A (putK vs k y) (putD ds k e) := by
  unfold putK putD
  rw [t.any k]
  split
  · exact t.repl k h
  · exact t.snoc k h
theorem DnKV.merge {ws : List (Key × V)} : ∀ {es : List (Key × D)} {vs : List (Key × V)} {ds : List (Key × D)}, DnKV K G A ws es → DnKV K G A vs ds → DnKV K G A (mergeK vs ws) (mergeD ds es) := by
  induction ws with
  | nil => intro es vs ds h t; cases h; exact t
  | cons w ws ih =>
    intro es vs ds h t
    cases h with
    | @cons k v _ d _ a b => exact (show DnKV K G A (mergeK (putK vs k v) ws) (mergeD (putD ds k d) _) from ih b (t.put k a))
end

/-! ## things that change -/
def tyOb : Ob → Option String
  | .lst _ => some "list"
  | .dct _ => some "dict"
  | _ => none
/-- a method that changes its object -/
def rMut (K : PySem.W.Frag) (T : String) (g : Sto → Nat → Ob → List D → Option (D × Ob)) : V → List V → Hp → VK → Prop := fun x xs H Q => ∃ G A S n a ob ds z ob', Rel K A S G H ∧ A[n]? = some a ∧ x = .ref a ∧ S[n]? = some ob ∧ tyOb ob = some T ∧ DnAll K G A xs ds ∧ g S n ob ds = some (z, ob') ∧
  ∀ H' v, Ex A G H A G H' → Rel K A (S.set n ob') G H' → Dn K G A v z → Q v H'
def MutD (X : Cx) (name : Str) (ts : List String) (g : Sto → Nat → Ob → List D → Option (D × Ob)) : Prop := ∀ T ∈ ts, ∃ id, MOk name T id ∧ MtM X id (rMut X.K T g)
def obIn (ts : List String) (o : Option Ob) : Option String := (o.bind tyOb).bind fun T => if T ∈ ts then some T else none
theorem obIn_eq {ts : List String} {o : Option Ob} {T : String} (h : obIn ts o = some T) : ∃ ob, o = some ob ∧ tyOb ob = some T ∧ T ∈ ts := by
  unfold obIn at h
  obtain ⟨T', e, h⟩ := Option.bind_eq_some_iff.mp h
  obtain ⟨ob, e1, e2⟩ := Option.bind_eq_some_iff.mp e
  split at h
  · rename_i hm; cases h; exact ⟨ob, e1, e2, hm⟩
  · cases h
def D.ref? : D → Option Nat
  | .ref n => some n
  | _ => none
theorem D.ref?_eq {d : D} {n : Nat} (h : d.ref? = some n) : d = .ref n := by
  cases d <;> simp [D.ref?] at h
  rw [h]
def mutAt (T : String) (g : Sto → Nat → Ob → List D → Option (D × Ob)) (n : Nat) (xs : List D) : M D := fun S => match S[n]? with
  | some ob => if tyOb ob = some T then (match g S n ob xs with
    | some p => .ok p.1 (S.set n p.2)
    | none => .no) else .no
  | none => .no
def eMut (ts : List String) (g : Sto → Nat → Ob → List D → Option (D × Ob)) (fo : FEx) (fa : FAx) : FEx := fun r => bnd (fo r) fun x => bnd (opt x.ref?) fun n => bnd (fun S => opt (obIn ts S[n]?) S) fun T => bnd (fa r) fun xs => mutAt T g n xs
theorem ob_ty {G H : Hp} {A : List Addr} {S : Sto} {n : Nat} {a : Addr} {ob : Ob} {T : String} (R : Rel X.K A S G H) (e : A[n]? = some a) (eo : S[n]? = some ob) (ht : tyOb ob = some T) : HasTy X (.ref a) T H := by
  have w := R.ob n a ob e eo
  cases ob with
  | lst ds => obtain ⟨vs, e1, t⟩ := w; exact hasTy_of R (d := .lst ds) (.lst e1 t) ht
  | dct ds => obtain ⟨vs, e1, t⟩ := w; exact hasTy_of R (d := .dct ds) (.dct e1 t) ht
  | ins _ _ => cases ht
  | dead => cases ht
section
variable {o e : Expr} {es : List Expr} {name : Str} {apos cpos : Pos} {fo : FEx} {fs : FAx}
theorem fe_mut {ts : List String} {g : Sto → Nat → Ob → List D → Option (D × Ob)} (hm : MutD X name ts g) (ho : FE X EE o fo) (ha : FA X EE (e :: es) fs) (hbase : attributeBase o name X.env (eval o X.env) = eval o X.env := by rfl)
    (hfew : ((backTo cpos (starEach (e :: es) X.env)).all (fun x => !x.1) && (backToKw cpos (keywordEach [] X.env)).all (fun x => x.1.isSome)
      && decide ((e :: es).length + ([] : List Keyword).length + (if ([] : List Keyword).isEmpty then 0 else 1) < 30)) = true := by rfl)
    (hline : (apos.endLine == cpos.line) = true := by rfl) (hs : starEach (e :: es) X.env = (false, eval e X.env) :: starEach es X.env := by rfl) (hplain : (backTo cpos (starEach es X.env)).any (·.1) = false := by rfl) :
    FE X EE (.Call (.Attribute o name apos) (e :: es) [] cpos) (eMut ts g fo fs) := by
  refine pe_weak (pe_bmU ho ha hbase hfew hline hs hplain) fun s H Q ⟨r, G, A, S, hr, hR, q⟩ => ?_
  refine re_bnd hr hR q (fun _ _ z => z) fun G1 A1 H1 x d S1 a1 r1 R1 n1 q1 => ?_
  rw [post_bnd, post_opt] at q1
  obtain ⟨n, hn, q1⟩ := q1
  cases D.ref?_eq hn
  rw [post_bnd, post_opt] at q1
  obtain ⟨T, hT, q1⟩ := q1
  obtain ⟨ob, ho1, hT1, hT2⟩ := obIn_eq hT
  obtain ⟨id, ok, mt⟩ := hm T hT2
  cases n1 with
  | @ref _ a ea =>
  refine ⟨T, id, rMut X.K T g, ok, ob_ty R1 ea ho1 hT1, mt, ?_⟩
  refine ra_bnd r1 R1 q1 (fun _ _ z => z.mono a1) fun G2 A2 H2 xs ds S2 a2 r2 R2 n2 q2 => ?_
  unfold mutAt at q2
  split at q2
  · rename_i ob2 ho2
    split at q2
    · rename_i ht2
      split at q2
      · rename_i p hp
        exact ⟨G2, A2, S2, n, a, ob2, ds, p.1, p.2, R2, a2.p _ _ ea, rfl, ho2, ht2, n2, hp, fun H3 v a3 R3 n3 => q2 G2 A2 H3 v ((a1.trans a2).trans a3) R3 n3⟩
      · exact q2.elim
    · exact q2.elim
  · exact q2.elim
end
def appendD : Sto → Nat → Ob → List D → Option (D × Ob) := fun _ _ ob ds => match ob, ds with
  | .lst xs, [d] => if xs.length < 1000000 then some (.non, .lst (xs ++ [d])) else none
  | _, _ => none
theorem dat {G H : Hp} {A : List Addr} {S : Sto} {n : Nat} {a : Addr} (R : Rel X.K A S G H) (e : A[n]? = some a) : a ∈ A := List.mem_of_getElem? e
theorem mut_append : MutD X "append" ["list"] appendD := by
  intro T hT
  obtain rfl : T = "list" := by simpa using hT
  refine ⟨"list.append", ⟨F.plainAttrs_list, F.slot_list_append, F.type_list_append⟩, ?_⟩
  intro pins s σ H x xs v us Q I rx rv ⟨G, A, S, n, a, ob, ds, z, ob', R, ea, ex, eo, _, nd, hg, q⟩
  subst ex
  unfold appendD at hg
  split at hg
  · rename_i ys d
    split at hg
    · rename_i hl
      cases hg
      obtain ⟨vs, e1, t⟩ := R.ob n a _ ea eo
      cases nd with
      | @cons w _ _ _ nw nn =>
        cases nn
        refine mt_append pins s σ H (.ref a) [w] v us Q I rx rv ⟨a, vs, w, rfl, rfl, e1, by rw [t.length]; exact Nat.lt_of_lt_of_le hl (by decide), ?_⟩
        exact q _ _ (R.exWrite (dat R ea) _) (R.write ea ⟨_, upd_same, t.append (.cons nw .nil)⟩) .non
    · cases hg
  · cases hg
def updateD : Sto → Nat → Ob → List D → Option (D × Ob) := fun S n ob ds => match ob, ds with
  | .dct kvs, [d] => match vw S d with
    | .dct more => if kvs.length + more.length ≤ 1000000 ∧ d.ref? ≠ some n then some (.non, .dct (mergeD kvs more)) else none
    | _ => none
  | _, _ => none
theorem mut_update : MutD X "update" ["dict"] updateD := by
  intro T hT
  obtain rfl : T = "dict" := by simpa using hT
  refine ⟨"dict.update", ⟨F.plainAttrs_dict, F.slot_dict_update, F.type_dict_update⟩, ?_⟩
  intro pins s σ H x xs v us Q I rx rv ⟨G, A, S, n, a, ob, ds, z, ob', R, ea, ex, eo, _, nd, hg, q⟩
  subst ex
  unfold updateD at hg
  split at hg
  · rename_i kvs d
    split at hg
    · rename_i more hm
      split at hg
      · rename_i hl
        cases hg
        obtain ⟨vs, e1, t⟩ := R.ob n a _ ea eo
        cases nd with
        | @cons w _ _ _ nw nn =>
          cases nn
          have vx := R.view nw
          rw [hm] at vx
          obtain ⟨b, ws, rfl, e2, t2⟩ := vx.dctE R
          obtain ⟨u, rfl, ru⟩ := rv.one
          cases rx
          cases ru
          obtain ⟨z1, hd1, vs1, rel1, dd1⟩ := dk_of I.hok e1
          obtain ⟨z2, hd2, vs2, rel2, dd2⟩ := dk_of I.hok e2
          by_cases hab : a = b
          · subst hab
            cases nw with
            | dct s1 _ => rw [R.dis a (dat R ea)] at s1; cases s1
            | @ref m _ em =>
              obtain ⟨h1, f1⟩ := List.getElem?_eq_some_iff.mp ea
              obtain ⟨h2, f2⟩ := List.getElem?_eq_some_iff.mp em
              exact absurd (congrArg some ((List.getElem_inj R.nd).mp (f2.trans f1.symm))) hl.2
            | lst s1 _ => cases hm
            | tup s1 _ => cases hm
          · have hz : vs1.length + vs2.length ≤ sizeLine := by
              rw [← rel1.length, ← rel2.length, t.length, t2.length]
              exact Nat.le_trans hl.1 (by decide)
            refine call_meetsIn F.slot_dict_update dd1.typeIs F.entry_dict_update (F.args_dict_update_2 _ _) (meets_dict_update (mixKind X.prog X.w) a b hab hd2) ⟨vs1, vs2, dd1, dd2, hz, fun h' d1 d2 sb => ?_⟩
            have hl2 : (mergeK vs ws).length ≤ sizeLine := by
              have h1 := length_mergeK ws vs
              have h2 := rel1.length
              have h3 := rel2.length
              omega
            have he : ∃ q, h'.get? a = some q := let ⟨q, _, _, hq, _⟩ := d1; ⟨q, hq⟩
            refine ⟨.non, _, d_write I (by rw [e1]; exact True.intro) sb he (dk_new hl2 hd1 (rel2.merge rel1) d1), rfl, ?_⟩
            exact q _ _ (R.exWrite (dat R ea) _) (R.write ea ⟨_, upd_same, t2.merge t⟩) .non
      · cases hg
    · cases hg
  · cases hg

/-! ## x[i] = v -/
def setOb (ob : Ob) (i v : D) : Option Ob := match ob with
  | .lst xs => i.int?.bind fun k => (ixN xs.length k).map fun j => .lst (xs.set j v)
  | .dct kvs => i.key?.bind fun k => if kvs.length < 1000000 then some (.dct (putD kvs k v)) else none
  | _ => none
def rSetD (K : PySem.W.Frag) : V → V → V → Hp → (Hp → Prop) → Prop := fun o i v H Q => ∃ G A S n a ob di dv ob', Rel K A S G H ∧ A[n]? = some a ∧ o = .ref a ∧ S[n]? = some ob ∧ Dv K G A H i di ∧ Dn K G A v dv ∧ setOb ob di dv = some ob' ∧
  ∀ H', Ex A G H A G H' → Rel K A (S.set n ob') G H' → Q H'
theorem set_D (hu : X.A.units + 1 < cLine) : PSet X (rSetD X.K) := by
  intro pins s σ H o i v ov iv u Q I ro ri rv ⟨G, A, S, n, a, ob, di, dv, ob', R, ea, ex, eo, ni, nv, hg, q⟩
  subst ex
  cases ob with
  | lst xs =>
    obtain ⟨k, hk, hg⟩ := Option.bind_eq_some_iff.mp (show (di.int?.bind fun k => (ixN xs.length k).map fun j => Ob.lst (xs.set j dv)) = some ob' from hg)
    obtain ⟨j, hj, rfl⟩ := Option.map_eq_some_iff.mp hg
    cases D.int?_eq hk
    cases ni.intE
    obtain ⟨vs, e1, t⟩ := R.ob n a _ ea eo
    refine set_list pins s σ H _ _ _ ov iv u Q I ro ri rv ⟨a, vs, k, j, rfl, rfl, e1, by rw [t.length]; exact hj, ?_⟩
    exact q _ (R.exWrite (dat R ea) _) (R.write ea ⟨_, upd_same, t.set nv j⟩)
  | dct kvs =>
    obtain ⟨k, hk, hg⟩ := Option.bind_eq_some_iff.mp (show (di.key?.bind fun k => if kvs.length < 1000000 then some (Ob.dct (putD kvs k dv)) else none) = some ob' from hg)
    split at hg
    · rename_i hl
      cases hg
      obtain ⟨vs, e1, t⟩ := R.ob n a _ ea eo
      cases dv_key ni hk
      cases ro
      refine d_setItem hu I (DPut.k e1 (by rw [t.length]; exact Nat.lt_of_lt_of_le hl (by decide))) ri rv fun s' I' => ⟨_, I', ?_⟩
      exact q _ (R.exWrite (dat R ea) _) (R.write ea ⟨_, upd_same, t.put k nv⟩)
    · cases hg
  | ins _ _ => cases hg
  | dead => cases hg
def setAt (n : Nat) (i v : D) : M Unit := fun S => match S[n]? with
  | some ob => match setOb ob i v with
    | some ob' => .ok () (S.set n ob')
    | none => .no
  | none => .no
def gSub' (fo fi : FEx) : FGx := fun d r => bnd (fo r) fun x => bnd (fi r) fun i => bnd (opt x.ref?) fun n => bnd (fun S => setAt n (vw S i) d S) fun _ => ret r
theorem fg_sub {o i : Expr} {fo fi : FEx} {pos : Pos} (hu : X.A.units + 1 < cLine) (ho : FE X EE o fo) (hi : FE X EE i fi)
    (ha : ∀ v, assign (.Subscript o i pos) X.env v = (do
      let ov ← holding [v] (eval o X.env)
      let iv ← holding [v, ov] (eval i X.env)
      standAt pos
      holding [v, ov, iv] (setItem ov iv v)
      release [v, ov, iv] []) := by intro _; rfl) : FG X EE (.Subscript o i pos) (gSub' fo fi) := by
  refine pg_weak (pg_sub ho hi (set_D hu) ha) fun v s H Q ⟨r, G, A, S, d, hr, hR, hd, q⟩ => ?_
  refine re_bnd hr hR q (fun _ _ z => z) fun G1 A1 H1 x dx S1 a1 r1 R1 n1 q1 => ?_
  refine re_bnd r1 R1 q1 (fun _ _ z => z.mono a1) fun G2 A2 H2 y e S2 a2 r2 R2 n2 q2 => ?_
  rw [post_bnd, post_opt] at q2
  obtain ⟨n, hn, q2⟩ := q2
  cases D.ref?_eq hn
  cases n1 with
  | @ref _ a ea =>
  rw [post_bnd] at q2
  unfold setAt at q2
  split at q2
  · rename_i ob ho
    split at q2
    · rename_i ob' hs
      have a12 := a1.trans a2
      exact ⟨G2, A2, S2, n, a, ob, _, d, ob', R2, a2.p _ _ ea, rfl, ho, R2.view n2, hd.mono a12.g a12.p, hs, fun H3 a3 R3 => q2 G2 A2 H3 s (a12.trans a3) R3 (r2.mono a3.g a3.p)⟩
    · exact q2.elim
  · exact q2.elim

/-! ## {} -/
def eNewD : FEx := fun _ S => .ok (.ref S.length) (S ++ [.dct []])
theorem fe_newD {pos : Pos} : FE X EE (.Dict [] [] pos) eNewD := by
  refine pe_weak pe_dnewK fun s H Q ⟨r, G, A, S, hr, hR, q⟩ p hp => ?_
  have R2 : Rel X.K (A ++ [p]) (S ++ [.dct []]) G (upd H p (.dK [])) := hR.alloc hp ⟨[], upd_same, .nil⟩
  refine q G (A ++ [p]) _ _ (hR.exAlloc hp _) R2 (.ref ?_)
  rw [← hR.len]
  simp
end
end FL
end

section
set_option Elab.async false
set_option linter.all false
set_option maxRecDepth 100000
set_option autoImplicit false
set_option maxHeartbeats 2000000
namespace FL
open PySem PySem.Spec PyProof.Rows L2

/-! ## only the first things are named -/
mutual
def D.lt (n : Nat) : D → Bool
  | .ref m => decide (m < n)
  | .lst xs => D.ltAll n xs
  | .tup xs => D.ltAll n xs
  | .dct kvs => D.ltKV n kvs
  | .non => true
  | .bl _ => true
  | .int _ => true
  | .str _ => true
def D.ltAll (n : Nat) : List D → Bool
  | [] => true
  | d :: ds => d.lt n && D.ltAll n ds
def D.ltKV (n : Nat) : List (Key × D) → Bool
  | [] => true
  | (_, d) :: ds => d.lt n && D.ltKV n ds
end
def Ob.lt (n : Nat) : Ob → Bool
  | .lst xs => D.ltAll n xs
  | .dct kvs => D.ltKV n kvs
  | .ins _ _ => false
  | .dead => true
section
variable {K : PySem.W.Frag} {G : Hp} {A A' : List Addr}
mutual
theorem Dn.cut (hp : ∀ (i : Nat), i < A.length → A'[i]? = A[i]?) : ∀ (d : D) (v : V), Dn K G A' v d → d.lt A.length = true → Dn K G A v d
  | .non, _, h, _ => by cases h; exact .non
  | .bl b, _, h, _ => by cases h; exact .bl b
  | .int i, _, h, _ => by cases h; exact .int i
  | .str x, _, h, _ => by cases h with | str _ o => exact .str x o
  | .lst ds, _, h, l => by cases h with | lst s t => exact .lst s (DnAll.cut hp ds _ t (by simpa [D.lt] using l))
  | .tup ds, _, h, l => by cases h with | tup s t => exact .tup s (DnAll.cut hp ds _ t (by simpa [D.lt] using l))
  | .dct kds, _, h, l => by cases h with | dct s t => exact .dct s (DnKV.cut hp kds _ t (by simpa [D.lt] using l))
  | .ref n, _, h, l => by cases h with | ref q => exact .ref (by rw [← hp n (by simpa [D.lt] using l)]; exact q)
theorem DnAll.cut (hp : ∀ (i : Nat), i < A.length → A'[i]? = A[i]?) : ∀ (ds : List D) (vs : List V), DnAll K G A' vs ds → D.ltAll A.length ds = true → DnAll K G A vs ds
  | [], _, h, _ => by cases h; exact .nil
  | d :: ds, _, h, l => by
    have l' : d.lt A.length = true ∧ D.ltAll A.length ds = true := by simpa [D.ltAll] using l
    cases h with | cons a b => exact .cons (Dn.cut hp d _ a l'.1) (DnAll.cut hp ds _ b l'.2)
theorem DnKV.cut (hp : ∀ (i : Nat), i < A.length → A'[i]? = A[i]?) : ∀ (ds : List (Key × D)) (vs : List (Key × V)), DnKV K G A' vs ds → D.ltKV A.length ds = true → DnKV K G A vs ds
  | [], _, h, _ => by cases h; exact .nil
  | (k, d) :: ds, _, h, l => by
    have l' : d.lt A.length = true ∧ D.ltKV A.length ds = true := by simpa [D.ltKV] using l
    cases h with | cons a b => exact .cons (Dn.cut hp d _ a l'.1) (DnKV.cut hp ds _ b l'.2)
end
mutual
theorem Dn.isLt : ∀ (d : D) (v : V), Dn K G A v d → d.lt A.length = true
  | .non, _, _ => rfl
  | .bl b, _, _ => rfl
  | .int i, _, _ => rfl
  | .str x, _, _ => rfl
  | .lst ds, _, h => by cases h with | lst s t => simpa [D.lt] using DnAll.isLt ds _ t
  | .tup ds, _, h => by cases h with | tup s t => simpa [D.lt] using DnAll.isLt ds _ t
  | .dct kds, _, h => by cases h with | dct s t => simpa [D.lt] using DnKV.isLt kds _ t
  | .ref n, _, h => by cases h with | ref q => simpa [D.lt] using (List.getElem?_eq_some_iff.mp q).1
theorem DnAll.isLt : ∀ (ds : List D) (vs : List V), DnAll K G A vs ds → D.ltAll A.length ds = true
  | [], _, _ => rfl
  | d :: ds, _, h => by cases h with | cons a b => simp [D.ltAll, Dn.isLt d _ a, DnAll.isLt ds _ b]
theorem DnKV.isLt : ∀ (ds : List (Key × D)) (vs : List (Key × V)), DnKV K G A vs ds → D.ltKV A.length ds = true
  | [], _, _ => rfl
  | (k, d) :: ds, _, h => by cases h with | cons a b => simp [D.ltKV, Dn.isLt d _ a, DnKV.isLt ds _ b]
end
theorem ObR.isLt {H : Hp} {a : Addr} {o : Ob} (h : ObR K G A H a o) : o.lt A.length = true := by
  cases o with
  | lst ds => obtain ⟨vs, _, t⟩ := h; exact DnAll.isLt ds _ t
  | dct ds => obtain ⟨vs, _, t⟩ := h; exact DnKV.isLt ds _ t
  | ins _ _ => exact h.elim
  | dead => rfl
theorem ObR.cut {H : Hp} {a : Addr} {o : Ob} (hp : ∀ (i : Nat), i < A.length → A'[i]? = A[i]?) (h : ObR K G A' H a o) (l : o.lt A.length = true) : ObR K G A H a o := by
  cases o with
  | lst ds => obtain ⟨vs, e, t⟩ := h; exact ⟨vs, e, DnAll.cut hp ds _ t l⟩
  | dct ds => obtain ⟨vs, e, t⟩ := h; exact ⟨vs, e, DnKV.cut hp ds _ t l⟩
  | ins _ _ => exact h.elim
  | dead => trivial
end

/-! ## the end of a call -/
/-- what the caller holds names nothing new -/
def Kept (S S' : Sto) : Prop := ∀ (i : Nat) (o : Ob), i < S.length → S'[i]? = some o → S[i]? = some o ∨ o.lt S.length = true
/-- a value handed out: a thing that is no more held by anybody else never changes again -/
def handed (L : Nat) (S' : Sto) (d : D) : Option D := if d.lt L = true then some d else match d.ref?.bind fun n => S'[n]? with
  | some (.lst xs) => if D.ltAll L xs = true then some (.lst xs) else none
  | some (.dct xs) => if D.ltKV L xs = true then some (.dct xs) else none
  | _ => none
theorem handed_eq {L : Nat} {S' : Sto} {d d' : D} (h : handed L S' d = some d') : (d.lt L = true ∧ d' = d) ∨ ∃ n, d = .ref n ∧ L ≤ n ∧ ((∃ xs, S'[n]? = some (.lst xs) ∧ D.ltAll L xs = true ∧ d' = .lst xs) ∨ ∃ xs, S'[n]? = some (.dct xs) ∧ D.ltKV L xs = true ∧ d' = .dct xs) := by
  unfold handed at h
  split at h
  · rename_i hl; cases h; exact .inl ⟨hl, rfl⟩
  · rename_i hl
    have key : ∀ o, (d.ref?.bind fun n => S'[n]?) = some o → ∃ n, d = .ref n ∧ L ≤ n ∧ S'[n]? = some o := fun o ho => by
      obtain ⟨n, hn, ho⟩ := Option.bind_eq_some_iff.mp ho
      cases D.ref?_eq hn
      exact ⟨n, rfl, by simpa [D.lt] using hl, ho⟩
    split at h
    · rename_i xs hx
      obtain ⟨n, h1, h2, h3⟩ := key _ hx
      split at h
      · rename_i hy; cases h; exact .inr ⟨n, h1, h2, .inl ⟨xs, h3, hy, rfl⟩⟩
      · cases h
    · rename_i xs hx
      obtain ⟨n, h1, h2, h3⟩ := key _ hx
      split at h
      · rename_i hy; cases h; exact .inr ⟨n, h1, h2, .inr ⟨xs, h3, hy, rfl⟩⟩
      · cases h
    · cases h
open Classical in
noncomputable def cutR (S : Sto) (d : D) (S' : Sto) : R D := if S'.length = S.length then .ok d S' else if Kept S S' then (match handed S.length S' d with
  | some d' => .ok d' (S'.take S.length)
  | none => .no) else .no
theorem pre_take {A A' : List Addr} (p : Pre A A') : ∀ (i : Nat), i < A.length → A'[i]? = A[i]? := fun i h => by
  have e : A[i]? = some A[i] := List.getElem?_eq_getElem h
  rw [e]
  exact p i _ e
theorem pre_eq {A A' : List Addr} (p : Pre A A') (h : A'.length = A.length) : A' = A := by
  apply List.ext_getElem?
  intro i
  by_cases hi : i < A.length
  · exact pre_take p i hi
  · rw [List.getElem?_eq_none (by omega), List.getElem?_eq_none (by omega)]
section
variable {K : PySem.W.Frag} {G G' H H' : Hp} {A A' : List Addr} {S S' : Sto}
theorem Ex.cut (e : Ex A G H A' G' H') : Ex A G H A G' H' := ⟨e.g, Pre.refl _, fun a o n q => ⟨n, (e.f a o n q).2⟩, e.k, e.l⟩
theorem Rel.cut (R0 : Rel K A S G H) (e : Ex A G H A' G' H') (R : Rel K A' S' G' H') (k : Kept S S') : Rel K A (S'.take S.length) G' H' := by
  have hp := pre_take e.p
  have hm : ∀ a ∈ A, a ∈ A' := fun a m => by
    obtain ⟨i, hi⟩ := List.getElem?_of_mem m
    exact List.mem_of_getElem? (e.p i a hi)
  have hle : A.length ≤ A'.length := by
    rcases Nat.lt_or_ge A'.length A.length with h | h
    · have := hp (A.length - 1) (by omega)
      rw [List.getElem?_eq_none (by omega), List.getElem?_eq_getElem (by omega)] at this
      cases this
    · exact h
  refine ⟨R.sub, ?_, R0.nd, fun a m => R.dis a (hm a m), fun a m => R.live a (hm a m), fun n a o e1 e2 => ?_⟩
  · rw [List.length_take, ← R.len, ← R0.len]; omega
  · have hn : n < S.length := by rw [← R0.len]; exact (List.getElem?_eq_some_iff.mp e1).1
    rw [List.getElem?_take_of_lt hn] at e2
    have w := R.ob n a o (e.p n a e1) e2
    refine w.cut hp ?_
    rcases k n o hn e2 with h | h
    · exact (R0.ob n a o e1 h).isLt
    · rw [R0.len]; exact h
/-- a value at the end of a call -/
theorem cut_post {Q : VK} {v : V} {d : D} {Ep : Exn → Sto → Prop} (R0 : Rel K A S G H) (e : Ex A G H A' G' H') (R : Rel K A' S' G' H') (n : Dn K G' A' v d) (q : (cutR S d S').post (QV K G A H Q) Ep) : Q v H' := by
  unfold cutR at q
  split at q
  · rename_i hl
    have hA : A' = A := pre_eq e.p (by rw [R.len, R0.len]; exact hl)
    subst hA
    exact q G' A' H' v e R n
  · split at q
    · rename_i hk
      split at q
      · rename_i d' hd
        have R1 := R0.cut e R hk
        have e1 := e.cut
        have hp := pre_take e.p
        rcases handed_eq hd with ⟨hl, rfl⟩ | ⟨m, rfl, hm, hh⟩
        · exact q G' A H' v e1 R1 (Dn.cut hp _ v n (by rw [R0.len]; exact hl))
        · cases n with
          | @ref _ a ea =>
          have hG : G' a = none := R.dis a (List.mem_of_getElem? ea)
          have hnA : a ∉ A := fun z => by
            obtain ⟨i, hi⟩ := List.getElem?_of_mem z
            obtain ⟨h1, f1⟩ := List.getElem?_eq_some_iff.mp ea
            obtain ⟨h2, f2⟩ := List.getElem?_eq_some_iff.mp (e.p i a hi)
            have hi' : i < A.length := (List.getElem?_eq_some_iff.mp hi).1
            have e3 : m = i := (List.getElem_inj R.nd).mp (f1.trans f2.symm)
            rw [R0.len] at hi'
            omega
          have hH : H a = none := by
            cases z : H a with
            | none => rfl
            | some o => exact absurd (List.mem_of_getElem? ea) (e.f a o hnA z).1
          rcases hh with ⟨xs, hx, hl, rfl⟩ | ⟨xs, hx, hl, rfl⟩
          · obtain ⟨vs, hv, t⟩ := R.ob m a _ ea hx
            exact q _ A H' _ (e1.freeze hH hG _) (R1.freeze hG hnA hv) (.lst (.inl (.of upd_same)) ((DnAll.cut hp xs _ t (by rw [R0.len]; exact hl)).mono (upd_same_of hG) (Pre.refl _)))
          · obtain ⟨vs, hv, t⟩ := R.ob m a _ ea hx
            exact q _ A H' _ (e1.freeze hH hG _) (R1.freeze hG hnA hv) (.dct upd_same ((DnKV.cut hp xs _ t (by rw [R0.len]; exact hl)).mono (upd_same_of hG) (Pre.refl _)))
      · exact q.elim
    · exact q.elim
end

/-! ## defs -/
open Classical in
noncomputable def cutX (S : Sto) (x : Exn) (S' : Sto) : R D := if S'.length = S.length then .ex x S' else if Kept S S' ∧ D.ltAll S.length x.ds = true then .ex x (S'.take S.length) else .no
/-- keep: what the def has made may still change behind the call -/
noncomputable def doneR (keep : Bool) (S : Sto) : R Fl → R D
  | .ok (.nx _) S' => if keep then .ok .non S' else cutR S .non S'
  | .ok (.rt d) S' => if keep then .ok d S' else cutR S d S'
  | .ok _ _ => .no
  | .ex x S' => if keep then .ex x S' else cutX S x S'
  | .no => .no
def startE (n : Nat) (ds : List D) : Env := ds.map some ++ List.replicate (n - ds.length) none
noncomputable def dBody (keep : Bool) (n : Nat) (fb : FSx) (ds : List D) : M D := fun S => doneR keep S (fb (startE n ds) S)
theorem envR_start {K : PySem.W.Frag} {G : Hp} {A : List Addr} {N : List Str} {vs : List V} {ds : List D} (t : DnAll K G A vs ds) : EnvR K G A (L2.start N vs) (startE N.length ds) := by
  have hl := t.length
  refine ⟨by simp [L2.start, startE, hl], fun i d e => ?_⟩
  unfold startE at e
  unfold L2.start
  by_cases hi : i < ds.length
  · rw [List.getElem?_append_left (by simpa using hi), List.getElem?_map] at e
    have e1 : ds[i]? = some d := by
      cases z : ds[i]? with
      | none => rw [z] at e; cases e
      | some y => rw [z] at e; cases e; rfl
    obtain ⟨v, ev, nv⟩ := t.get e1
    exact ⟨v, by rw [List.getElem?_append_left (by simpa [hl] using hi), List.getElem?_map, ev] <;> rfl, nv⟩
  · rw [List.getElem?_append_right (by simpa using hi), List.getElem?_replicate] at e
    split at e <;> cases e
theorem cutX_post {K : PySem.W.Frag} {mg : Str → Option Value} {E : XK} {G G' H H' : Hp} {A A' : List Addr} {S S' : Sto} {x : Exn} {c : Value} {dx : Option Addr} {Qp : D → Sto → Prop} (R0 : Rel K A S G H) (e : Ex A G H A' G' H') (R : Rel K A' S' G' H') (n : XR mg K G' A' H' x c dx)
    (q : (cutX S x S').post Qp (QE K mg E G A H)) : E c dx H' := by
  unfold cutX at q
  split at q
  · rename_i hl
    have hA : A' = A := pre_eq e.p (by rw [R.len, R0.len]; exact hl)
    subst hA
    exact q G' A' H' c dx e R n
  · split at q
    · rename_i hk
      obtain ⟨h1, d, vs, h2, h3, h4⟩ := n
      exact q G' A H' c dx e.cut (R0.cut e R hk.1) ⟨h1, d, vs, h2, h3, DnAll.cut (pre_take e.p) _ _ h4 (by rw [R0.len]; exact hk.2)⟩
    · exact q.elim
/-- a def by its mirror; the guards of what is shown are known -/
def FnD (P : Program) (w : World) (K : PySem.W.Frag) (mg : Str → Option Value) (base : Heap) (CX : CXT) (k : Nat) (f : Addr) (fd : FuncData) (ps : List Str) (F : List D → M D) : Prop :=
  ∀ (B : Around) (outer : List PySem.Env) (s : Shared) (H : Hp) (args : Args) (us : List Value) (vs : List V) (Q : VK) (E : XK) (G : Hp) (A : List Addr) (S : Sto) (ds : List D),
    Room k B → B.guards = some [] → Env0 P w K mg base B outer s H → BindsTo s fd args (ps.zip us) → Vals vs us → vs.length = ps.length →
    Rel K A S G H → DnAll K G A vs ds → (F ds S).post (QV K G A H Q) (QE K mg E G A H) → codeAny (model P w) B (.call (.ref f) args) (CR CX outer P w H s Q E) s
theorem FnD.mono {P : Program} {w : World} {K : PySem.W.Frag} {mg : Str → Option Value} {base : Heap} {CX : CXT} {j k : Nat} {f : Addr} {fd : FuncData} {ps : List Str} {F : List D → M D} (h : FnD P w K mg base CX j f fd ps F) (hk : j ≤ k) : FnD P w K mg base CX k f fd ps F :=
  fun B outer s H args us vs Q E G A S ds hr => h B outer s H args us vs Q E G A S ds (hr.mono hk)
section
variable {P : Program} {w : World} {K : PySem.W.Frag} {mg : Str → Option Value} {base : Heap} {CX : CXT} {k : Nat} {f : Addr} {fd : FuncData} {N ps : List Str} {x qual : Str} {params : Arguments} {body : List Stmt} {scope : Scope} {dfv : List V} {kwv : List (Str × V)} {fb : FSx} {keep : Bool}
/-- a def's mirror by the mirror of its body -/
theorem fnd_of (F : FunD K x qual params body scope dfv kwv f fd) (Sc : FnScope N ps scope)
    (hbody : ∀ (cdv : Value) (B : Around) (outer : List PySem.Env) (s : Shared) (H : Hp) (E : XK), Room k (B.deeper (envOfC qual scope s.heap.objs.size f cdv)) → B.guards = some [] →
      FSs (cxOf CX P w K mg base N qual scope f cdv B outer s H E) E body fb) :
    FnD P w K mg base CX (k + 1) f fd ps (dBody keep N.length fb) := by
  obtain ⟨oc, od, dV, kV, doc, pm, an, cdv, ct, osl, rfl, lk, hcd, _⟩ := F.ex
  intro B outer s H args us vs Q E G A S ds hr hgd e0 hb r hl R0 t q
  have hmem : ∀ b o, base.get? b = some o → s.heap.get? b = some o := fun b o z => (e0.bs b o z).1
  have hin : K.In s.heap := e0.mod.kin.keeps hmem
  refine codeAny_call_function hr.depth (hin _ _ lk) rfl Sc.co Sc.gen rfl (PySem.W.codeRec_of hin hcd) (hb _ _ _ _ (wpAny_newFunctionEnv_cells Sc.kind ?_ ?_))
  · rintro ⟨n, v⟩ hy
    exact (Sc.par n (List.of_mem_zip hy).1).imp (fun z => z) fun z => ⟨z, PySem.W.cellsFrom_some _ _ _ (.inl z)⟩
  · rintro env rfl s1 ic
    refine ⟨(e0.mod.nolimit.keeps hmem).keeps ic.toInCall.keep, codeAny_func ?_⟩
    have I := inv_start (CX := CX) (E := E) Sc hr.hd e0 hl r ic
    have run := (hbody cdv B outer s H E (hr.deeper _) hgd).run [] s1 (L2.start N vs) H { nx := fun _ H' => Q .non H', rt := Q } I ⟨startE N.length ds, G, A, S, envR_start t, R0, by
      unfold dBody doneR at q
      refine (show ∀ m : R Fl, (doneR keep S m).post (QV K G A H Q) (QE K mg E G A H) → m.post (QF K G A H { nx := fun _ H' => Q .non H', rt := Q }) (QE K mg E G A H) from fun m q => ?_) _ q
      cases m with
      | no => exact q.elim
      | ex x S' =>
        cases keep with
        | true => exact q
        | false => exact fun G' A' H' c dx e1 R1 n1 => cutX_post R0 e1 R1 n1 q
      | ok fl S' =>
        cases fl with
        | nx r' =>
          cases keep with
          | true => exact fun G' A' H' s' e1 R1 _ => q G' A' H' .non e1 R1 .non
          | false => exact fun G' A' H' s' e1 R1 _ => cut_post R0 e1 R1 .non q
        | rt d =>
          cases keep with
          | true => exact q
          | false => exact fun G' A' H' v e1 R1 n1 => cut_post R0 e1 R1 n1 q
        | bk r' => exact q.elim
        | ct r' => exact q.elim⟩
    refine wpAny_mono run (fun fl s' hs => ?_) fun _ _ z => z
    cases fl with
    | ret u => obtain ⟨v, _, H', J, rv, qv⟩ := hs; exact ⟨v, H', J.os, J.bare, J.base, J.hok, rv, qv⟩
    | next => obtain ⟨_, H', J, qv⟩ := hs; exact ⟨V.non, H', J.os, J.bare, J.base, J.hok, rfl, qv⟩
    | brk => obtain ⟨_, _, _, qv⟩ := hs; exact qv.elim
    | cont => obtain ⟨_, _, _, qv⟩ := hs; exact qv.elim
/-- .. which raises nothing -/
theorem fnd_of0 (F : FunD K x qual params body scope dfv kwv f fd) (Sc : FnScope N ps scope)
    (hbody : ∀ (cdv : Value) (B : Around) (outer : List PySem.Env) (s : Shared) (H : Hp) (E : XK), Room k (B.deeper (envOfC qual scope s.heap.objs.size f cdv)) → B.guards = some [] →
      FSs (cxOf C8.CX0 P w K mg base N qual scope f cdv B outer s H E).nox E body fb) :
    FnD P w K mg base C8.CX0 (k + 1) f fd ps (dBody keep N.length fb) :=
  fnd_of F Sc fun cdv B outer s H E hr hg => (hbody cdv B outer s H E hr hg).nox
end

/-! ## calls of defs -/
/-- how n written values and the keywords' values (names ks) are bound -/
structure BdD (K : PySem.W.Frag) (fd : FuncData) (ps : List Str) (n : Nat) (ks : List Str) (g : List D → List D → List D) : Prop where
  ex : ∃ (gU : List Value → List Value → List Value) (gV : List V → List V → List V),
    (∀ (s : Shared) (us ws : List Value), K.In s.heap → us.length = n → ws.length = ks.length → BindsTo s fd ⟨us, ks.zip ws⟩ (ps.zip (gU us ws))) ∧
    (∀ (vs zs : List V) (us ws : List Value), vs.length = n → zs.length = ks.length → Vals vs us → Vals zs ws → Vals (gV vs zs) (gU us ws)) ∧
    (∀ (G : Hp) (A : List Addr) (vs zs : List V) (ds es : List D), vs.length = n → zs.length = ks.length → DnAll K G A vs ds → DnAll K G A zs es → DnAll K G A (gV vs zs) (g ds es)) ∧
    ∀ (vs zs : List V), vs.length = n → zs.length = ks.length → (gV vs zs).length = ps.length
def gAll (ds _ : List D) : List D := ds
theorem bdd_all {K : PySem.W.Frag} {fd : FuncData} {ps : List Str} (h : Binds K fd ps []) : BdD K fd ps ps.length [] gAll :=
  ⟨fun us _ => us, fun vs _ => vs, fun s us ws hk h1 h2 => by
    have e : ws = [] := List.length_eq_zero_iff.mp h2
    subst e
    have := h s us hk (by simpa using h1)
    simpa using this, fun vs zs us ws _ _ r _ => r, fun G A vs zs ds es _ _ r _ => r, fun vs zs h1 _ => h1⟩
def gDef (dd ds _ : List D) : List D := ds ++ dd
theorem bdd_def {K : PySem.W.Frag} {fd : FuncData} {ps : List Str} {dvs : List V} {dd : List D} (n : Nat) (h : ∃ dsv, Vals dvs dsv ∧ Binds K fd ps dsv) (hd : ∀ G A, DnAll K G A dvs dd) (hn : n + dd.length = ps.length) : BdD K fd ps n [] (gDef dd) := by
  obtain ⟨dsv, r, b⟩ := h
  have l1 : dvs.length = dd.length := (hd (fun _ => none) []).length
  have l2 := r.length
  exact ⟨fun us _ => us ++ dsv, fun vs _ => vs ++ dvs, fun s us ws hk h1 h2 => by
    have e : ws = [] := List.length_eq_zero_iff.mp h2
    subst e
    exact b s us hk (by rw [List.length_append]; omega), fun vs zs us ws _ _ q _ => q.append r, fun G A vs zs ds es _ _ q _ => q.append (hd G A), fun vs zs h1 _ => by rw [List.length_append]; omega⟩
/-- a def that may be called by its name -/
structure CalD (P : Program) (w : World) (K : PySem.W.Frag) (mg : Str → Option Value) (base : Heap) (CX : CXT) (k : Nat) (x : Str) (n : Nat) (ks : List Str) (g : List D → List D → List D) (F : List D → M D) : Prop where
  ex : ∃ (f : Addr) (fd : FuncData) (ps : List Str), FnD P w K mg base CX k f fd ps F ∧ mg x = some (.ref f) ∧ PySem.W.keepIn K (.ref f) = true ∧ BdD K fd ps n ks g
def eCall (n m : Nat) (g : List D → List D → List D) (F : List D → M D) (fa fk : FAx) : FEx := fun r => bnd (fa r) fun ds => bnd (fk r) fun es => if ds.length = n ∧ es.length = m then F (g ds es) else fun _ => .no
abbrev FK (X : Cx) (EE : XK) (kws : List Keyword) (f : FAx) : Prop := PK X kws (RA X EE f)
section
variable {X : Cx} {EE : XK} {CX : CXT} {k j n : Nat} {x : Str} {ks : List Str} {g : List D → List D → List D} {F : List D → M D} {p pos : Pos} {e : Expr} {es : List Expr} {kws : List Keyword} {fa fk : FAx}
theorem pk_weak {t t' : TA} (h : PK X kws t) (w : ∀ s H Q, t' s H Q → t s H Q) : PK X kws t' := ⟨fun pos pins s σ H Q I q => h.run pos pins s σ H Q I (w _ _ _ q)⟩
theorem fk_nil : FK X EE [] aNil := by
  refine pk_weak pk_nil fun s H Q ⟨r, G, A, S, hr, hR, q⟩ => ?_
  exact q G A H [] Ex.refl hR .nil
theorem fk_cons {nm : Option Str} {kpos : Pos} {fe : FEx} (ha : FE X EE e fe) (hr : FK X EE kws fk) : FK X EE (⟨nm, e, kpos⟩ :: kws) (aCons fe fk) := by
  refine pk_weak (pk_cons ha hr) fun s H Q ⟨r, G, A, S, hr, hR, q⟩ => ?_
  refine re_bnd hr hR q (fun _ _ z => z) fun G1 A1 H1 x d S1 a1 r1 R1 n1 q1 => ?_
  refine ra_bnd r1 R1 q1 (fun _ _ z => z.mono a1) fun G2 A2 H2 y e S2 a2 r2 R2 n2 q2 => ?_
  exact q2 G2 A2 H2 _ (a1.trans a2) R2 (.cons (n1.mono a2.g a2.p) n2)
/-- the values are there: the def runs -/
theorem run_cal (c : CalD X.prog X.w X.K X.mg X.base CX k x n ks g F) {f : Addr} (hm : X.mg x = some (.ref f)) (hr : Room k X.A) (hgd : X.A.guards = some []) (hx : Passes CX X EE) {pins : List (Addr × Obj)} {σ : L2.St} {H : Hp} {s : Shared} {Q : VK} {us ws : List Value} {vs zs : List V} {G : Hp} {A : List Addr} {S : Sto} {ds es : List D}
    (I : Inv X pins σ H s) (r : Vals vs us) (rz : Vals zs ws) (R : Rel X.K A S G H) (t : DnAll X.K G A vs ds) (tz : DnAll X.K G A zs es) (h1 : ds.length = n) (h2 : es.length = ks.length) (q : (F (g ds es) S).post (QV X.K G A H Q) (QE X.K X.mg EE G A H)) :
    wpAny (model X.prog X.w) X.A (call (.ref f) us (ks.zip ws)) (EP X pins σ Q) X.xe s := by
  obtain ⟨f', fd, ps, hF, hm', hk, gU, gV, b1, b2, b3, b4⟩ := c
  rw [hm] at hm'
  cases hm'
  have l1 : vs.length = n := t.length.trans h1
  have l2 : zs.length = ks.length := tz.length.trans h2
  refine wpAny_call (codeAny_mono (hF X.A X.stack s H ⟨us, ks.zip ws⟩ (gU us ws) (gV vs zs) Q EE G A S (g ds es) hr hgd I.env0 (b1 s us ws I.kIn (r.length.symm.trans l1) (rz.length.symm.trans l2)) (b2 _ _ _ _ l1 l2 r rz) (b4 _ _ l1 l2) R (b3 G A _ _ _ _ l1 l2 t tz) q) fun o s' hq => ?_)
  cases o with
  | error u => exact hx pins σ H s u s' I hq
  | ok fl =>
    cases fl with
    | ret u => exact I.after hq
    | next => exact hq.elim
    | brk => exact hq.elim
    | cont => exact hq.elim
theorem CalD.fn (c : CalD X.prog X.w X.K X.mg X.base CX k x n ks g F) : ∃ f, X.mg x = some (.ref f) ∧ PySem.W.keepIn X.K (.ref f) = true := by
  obtain ⟨f, fd, ps, _, h1, h2, _⟩ := c
  exact ⟨f, h1, h2⟩
theorem fe_call (c : CalD X.prog X.w X.K X.mg X.base CX k x n [] g F) (hr : Room j X.A) (hk : k ≤ j) (hgd : X.A.guards = some []) (hg : Gl X x) (hx : Passes CX X EE) (ha : FA X EE (e :: es) fa)
    (hdb : (x == ("__debug__" : Str)) = false := by decide) (he : starEach (e :: es) X.env = (false, eval e X.env) :: starEach es X.env := by rfl) (hpl : (backTo pos (starEach es X.env)).any (·.1) = false := by rfl) :
    FE X EE (.Call (.Name x p) (e :: es) [] pos) (eCall n 0 g F fa aNil) := by
  obtain ⟨f, hm, hkp⟩ := c.fn
  refine ⟨fun pins s σ H Q I ⟨r, G, A, S, hr0, hR, q⟩ => ?_⟩
  refine wpAny_Call_Name_kw (ld_glob I hg hm ?_ hdb)
  refine PySem.W.callWith_K (h₀ := X.base) I.ok.mod.kin hkp (thn (ha.run pos pins s σ H (fun vs H1 => ∃ G1 A1 S1 ds, Rel X.K A1 S1 G1 H1 ∧ DnAll X.K G1 A1 vs ds ∧ ds.length = n ∧ (F (g ds []) S1).post (QV X.K G1 A1 H1 Q) (QE X.K X.mg EE G1 A1 H1)) I ?_) fun us s1 ⟨vs, H1, I1, rv, G1, A1, S1, ds, R1, t1, l1, q1⟩ => ⟨I1.kIn, ?_⟩) he hpl
  · refine ra_bnd hr0 hR q (fun _ _ z => z) fun G1 A1 H1 vs ds S1 a1 r1 R1 n1 q1 => ?_
    have q1 : ((if ds.length = n ∧ ([] : List D).length = 0 then F (g ds []) else fun _ => .no) S1).post (QV X.K G A H Q) (QE X.K X.mg EE G A H) := q1
    split at q1
    · rename_i hl
      exact ⟨G1, A1, S1, ds, R1, n1, hl.1, q1.mono (fun _ _ z => z.mono a1) fun _ _ z => z.mono a1⟩
    · exact q1.elim
  · exact run_cal c hm (hr.mono hk) hgd hx I1 (ws := []) (zs := []) (es := []) rv .nil R1 t1 .nil l1 rfl q1
theorem fe_call0 (c : CalD X.prog X.w X.K X.mg X.base CX k x 0 [] g F) (hr : Room j X.A) (hk : k ≤ j) (hgd : X.A.guards = some []) (hg : Gl X x) (hx : Passes CX X EE)
    (hdb : (x == ("__debug__" : Str)) = false := by decide) : FE X EE (.Call (.Name x p) [] [] pos) (eCall 0 0 g F aNil aNil) := by
  obtain ⟨f, hm, hkp⟩ := c.fn
  refine ⟨fun pins s σ H Q I ⟨r, G, A, S, hr0, hR, q⟩ => ?_⟩
  refine wpAny_Call_Name_kw (ld_glob I hg hm ?_ hdb)
  exact PySem.W.callWith_K0 I.kIn hkp (run_cal c hm (hr.mono hk) hgd hx I (us := []) (vs := []) (ds := []) (ws := []) (zs := []) (es := []) .nil .nil hR .nil .nil rfl rfl q)
theorem fe_callK0 (c : CalD X.prog X.w X.K X.mg X.base CX k x 0 ks g F) (hr : Room j X.A) (hk : k ≤ j) (hgd : X.A.guards = some []) (hg : Gl X x) (hx : Passes CX X EE) (hkw : FK X EE kws fk)
    (hall : (backToKw pos (keywordEach kws X.env)).all (·.1.isSome) = true := by rfl) (hks : (backToKw pos (keywordEach kws X.env)).filterMap (·.1) = ks := by rfl)
    (hdb : (x == ("__debug__" : Str)) = false := by decide) (hpl : ((backTo pos (starEach [] X.env)).any (·.1) || (backToKw pos (keywordEach kws X.env)).any (·.1.isNone)) = false := by rfl) :
    FE X EE (.Call (.Name x p) [] kws pos) (eCall 0 ks.length g F aNil fk) := by
  obtain ⟨f, hm, hkp⟩ := c.fn
  refine ⟨fun pins s σ H Q I ⟨r, G, A, S, hr0, hR, q⟩ => ?_⟩
  refine wpAny_Call_Name_kw (ld_glob I hg hm ?_ hdb)
  refine PySem.W.callWith_KW0 (h₀ := X.base) I.ok.mod.kin hkp hall (thn (hkw.run pos pins s σ H (fun vs H1 => ∃ G1 A1 S1 ds, Rel X.K A1 S1 G1 H1 ∧ DnAll X.K G1 A1 vs ds ∧ ds.length = ks.length ∧ (F (g [] ds) S1).post (QV X.K G1 A1 H1 Q) (QE X.K X.mg EE G1 A1 H1)) I ?_) fun us s1 ⟨vs, H1, I1, rv, G1, A1, S1, ds, R1, t1, l1, q1⟩ => ⟨I1.kIn, ?_⟩) hpl
  · have q : (bnd (fk r) (fun es => if ([] : List D).length = 0 ∧ es.length = ks.length then F (g [] es) else fun _ => .no) S).post (QV X.K G A H Q) (QE X.K X.mg EE G A H) := q
    refine ra_bnd hr0 hR q (fun _ _ z => z) fun G1 A1 H1 vs ds S1 a1 r1 R1 n1 q1 => ?_
    split at q1
    · rename_i hl
      exact ⟨G1, A1, S1, ds, R1, n1, hl.2, q1.mono (fun _ _ z => z.mono a1) fun _ _ z => z.mono a1⟩
    · exact q1.elim
  · rw [hks]
    exact run_cal c hm (hr.mono hk) hgd hx I1 (us := []) (vs := []) (ds := []) .nil rv R1 .nil t1 rfl l1 q1
theorem fe_callK (c : CalD X.prog X.w X.K X.mg X.base CX k x n ks g F) (hr : Room j X.A) (hk : k ≤ j) (hgd : X.A.guards = some []) (hg : Gl X x) (hx : Passes CX X EE) (ha : FA X EE (e :: es) fa) (hkw : FK X EE kws fk)
    (hall : (backToKw pos (keywordEach kws X.env)).all (·.1.isSome) = true := by rfl) (hks : (backToKw pos (keywordEach kws X.env)).filterMap (·.1) = ks := by rfl)
    (hdb : (x == ("__debug__" : Str)) = false := by decide) (he : starEach (e :: es) X.env = (false, eval e X.env) :: starEach es X.env := by rfl)
    (hpl : ((backTo pos (starEach (e :: es) X.env)).any (·.1) || (backToKw pos (keywordEach kws X.env)).any (·.1.isNone)) = false := by rfl) :
    FE X EE (.Call (.Name x p) (e :: es) kws pos) (eCall n ks.length g F fa fk) := by
  obtain ⟨f, hm, hkp⟩ := c.fn
  refine ⟨fun pins s σ H Q I ⟨r, G, A, S, hr0, hR, q⟩ => ?_⟩
  refine wpAny_Call_Name_kw (ld_glob I hg hm ?_ hdb)
  refine PySem.W.callWith_KW (h₀ := X.base) I.ok.mod.kin hkp hall (thn (ha.run pos pins s σ H (fun vs H1 => ∃ G1 A1 S1 ds, Ex A G H A1 G1 H1 ∧ EnvR X.K G1 A1 σ r ∧ Rel X.K A1 S1 G1 H1 ∧ DnAll X.K G1 A1 vs ds ∧ (bnd (fk r) (fun es => if ds.length = n ∧ es.length = ks.length then F (g ds es) else fun _ => .no) S1).post (QV X.K G A H Q) (QE X.K X.mg EE G A H)) I ?_) fun us s1 ⟨vs, H1, I1, rv, G1, A1, S1, ds, a1, r1, R1, t1, q1⟩ => ?_) hpl he
  · exact ra_bnd hr0 hR q (fun _ _ z => z) fun G1 A1 H1 vs ds S1 a1 r1 R1 n1 q1 => ⟨G1, A1, S1, ds, a1, r1, R1, n1, q1⟩
  · refine thn (hkw.run pos pins s1 σ H1 (fun zs H2 => ∃ G2 A2 S2 es, Rel X.K A2 S2 G2 H2 ∧ DnAll X.K G2 A2 vs ds ∧ DnAll X.K G2 A2 zs es ∧ ds.length = n ∧ es.length = ks.length ∧ (F (g ds es) S2).post (QV X.K G2 A2 H2 Q) (QE X.K X.mg EE G2 A2 H2)) I1 ?_) fun ws s2 ⟨zs, H2, I2, rz, G2, A2, S2, es, R2, t2, t3, l1, l2, q2⟩ => ⟨I2.kIn, ?_⟩
    · refine ra_bnd r1 R1 q1 (fun _ _ z => z.mono a1) fun G2 A2 H2 zs es S2 a2 r2 R2 n2 q2 => ?_
      split at q2
      · rename_i hl
        have a12 := a1.trans a2
        exact ⟨G2, A2, S2, es, R2, t1.mono a2.g a2.p, n2, hl.1, hl.2, q2.mono (fun _ _ z => z.mono a12) fun _ _ z => z.mono a12⟩
      · exact q2.elim
    · rw [hks]
      exact run_cal c hm (hr.mono hk) hgd hx I2 rv rz R2 t2 t3 l1 l2 q2
end
end FL
end

section
set_option Elab.async false
set_option linter.all false
set_option maxRecDepth 100000
set_option autoImplicit false
set_option maxHeartbeats 2000000
namespace FL
open PySem PySem.Spec PyProof.Rows L2

/-! ## sorted: texts, or tuples whose first items are texts that differ -/
def hkV : Option Value → List Nat
  | some (.str x _) => x.cps.toList
  | _ => []
def hkD : Data → List Nat
  | .seq its _ => hkV its[0]?
  | _ => []
def hkO : Option Obj → List Nat
  | some ob => hkD ob.data
  | none => []
def hk (h : Heap) : Value → List Nat
  | .str x _ => x.cps.toList
  | .ref a => hkO (h.get? a)
  | _ => []
def hlt (h : Heap) (v u : Value) : Bool := decide (hk h v < hk h u)
theorem swo_hlt (h : Heap) : SrtO.Swo (hlt h) := by
  refine ⟨fun x y q => ?_, fun x y z q1 q2 => ?_⟩
  · have a := of_decide_eq_true (p := hk h x < hk h y) q
    exact decide_eq_false (p := hk h y < hk h x) (List.lt_asymm a)
  · have a := of_decide_eq_false (p := hk h y < hk h x) q1
    have b := of_decide_eq_false (p := hk h z < hk h y) q2
    refine decide_eq_false (p := hk h z < hk h x) ?_
    rw [List.not_lt] at a b ⊢
    exact List.le_trans a b
/-- a tuple that begins with a text -/
def HTup (h : Heap) (v : Value) (x : Str) : Prop := ∃ a o its n t, v = .ref a ∧ h.get? a = some o ∧ o.cls = .type "tuple" ∧ o.data = .seq its n ∧ its[0]? = some (.str x t)
theorem HTup.hk {h : Heap} {v : Value} {x : Str} (t : HTup h v x) : FL.hk h v = x.cps.toList := by
  obtain ⟨a, o, its, n, t, rfl, h1, h2, h3, h4⟩ := t
  show hkO (h.get? a) = _
  rw [h1]
  show hkD o.data = _
  rw [h3]
  show hkV its[0]? = _
  rw [h4]
  rfl
theorem HTup.keeps {h h' : Heap} {v : Value} {x : Str} (k : ∀ b o, h.get? b = some o → o.cls = .type "tuple" → h'.get? b = some o) (t : HTup h v x) : HTup h' v x := by
  obtain ⟨a, o, its, n, t, e, h1, h2, h3, h4⟩ := t
  exact ⟨a, o, its, n, t, e, k a o h1 h2, h2, h3, h4⟩
section
variable {prog : Program} {w : World} {A : Around} {E : Value → Shared → Prop} {s : Shared}
theorem eqBool_self {v : Value} {Q : Bool → Shared → Prop} (h : Q true s) : wpAny (model prog w) A (eqBool v v) Q E s := by
  unfold eqBool
  refine wpAny_holding ?_
  rw [if_pos (beq_self_eq_true v)]
  exact wpAny_bind (wpAny_rule (wpAny_pure h))
theorem lex_self {b fin : Bool} {Q : Bool → Shared → Prop} (h : Q fin s) : ∀ (l : List Value) (i : Nat), PySem.W.KatLex prog w A b fin Q (l.zip l) i s
  | [], i => PySem.W.kat_nil h
  | v :: l, i => PySem.W.kat_cons (eqBool_self (PySem.W.kat_yes (lex_self h l (i + 1))))
theorem cps_inj {x y : Str} (h : x.cps.toList = y.cps.toList) : x = y := by
  cases x; cases y
  congr
  exact Array.toList_inj.mp h
/-- two of them compare by their first items -/
theorem tup_lt {u v : Value} {x y : Str} {Q : Bool → Shared → Prop} (tu : HTup s.heap u x) (tv : HTup s.heap v y) (hne : u ≠ v → x ≠ y) (h : Q (decide (x.cps.toList < y.cps.toList)) s) : wpAny (model prog w) A (keyLt' (tuples' true) u v) Q E s := by
  obtain ⟨a, o, its, n, t, rfl, h1, h2, h3, h4⟩ := tu
  obtain ⟨b, o', its', n', t', rfl, g1, g2, g3, g4⟩ := tv
  refine PySem.W.kat_lt h1 h3 g1 g3 ?_
  by_cases hab : a = b
  · subst hab
    rw [h1] at g1
    cases g1
    rw [h3] at g3
    cases g3
    rw [h4] at g4
    cases g4
    refine lex_self ?_ _ 0
    have e1 : decide (its.size < its.size) = false := decide_eq_false (by omega)
    have e2 : decide (x.cps.toList < x.cps.toList) = false := decide_eq_false (List.lt_irrefl _)
    rw [e1]
    rw [e2] at h
    exact h
  · have hxy := hne fun z => hab (by injection z)
    have k1 : ∃ r, its.toList = .str x t :: r := by
      have e : its.toList[0]? = some (.str x t) := by rw [Array.getElem?_toList]; exact h4
      cases z : its.toList with
      | nil => rw [z] at e; simp at e
      | cons c r => rw [z] at e; simp at e; subst e; exact ⟨r, rfl⟩
    have k2 : ∃ r, its'.toList = .str y t' :: r := by
      have e : its'.toList[0]? = some (.str y t') := by rw [Array.getElem?_toList]; exact g4
      cases z : its'.toList with
      | nil => rw [z] at e; simp at e
      | cons c r => rw [z] at e; simp at e; subst e; exact ⟨r, rfl⟩
    obtain ⟨r, e1⟩ := k1
    obtain ⟨r', e2⟩ := k2
    rw [e1, e2]
    refine PySem.W.kat_cons (wpAny_eqBool_str ?_)
    rw [decide_eq_false hxy]
    exact PySem.W.kat_no (oneLt_str h)
/-- each has its text -/
def HTups (h : Heap) (vs : List Value) : Prop := ∀ v ∈ vs, ∃ x, HTup h v x
theorem htups_firsts {h : Heap} : ∀ (vs : List Value), HTups h vs → ∃ fs, PySem.W.KatTups h vs fs ∧ fs.length = vs.length ∧ ∀ f ∈ fs, ∃ x t, f = Value.str x t
  | [], _ => ⟨[], trivial, rfl, fun f hf => by cases hf⟩
  | v :: vs, q => by
    obtain ⟨x, a, o, its, n, t, e, h1, h2, h3, h4⟩ := q v List.mem_cons_self
    obtain ⟨fs, k1, k2, k3⟩ := htups_firsts vs fun u hu => q u (List.mem_cons_of_mem _ hu)
    refine ⟨.str x t :: fs, ⟨⟨a, o, its, n, e, h1, h2, h3, h4⟩, k1⟩, by simp [k2], fun f hf => ?_⟩
    rcases List.mem_cons.mp hf with rfl | hf
    · exact ⟨x, t, rfl⟩
    · exact k3 f hf
theorem tups_sortable {a : Addr} {vs : List Value} (h2 : 2 ≤ vs.length) (ht : HTups s.heap vs) (ha : ∀ o, s.heap.get? a = some o → o.cls = .type "list") (hd : ∀ u ∈ vs, ∀ v ∈ vs, hk s.heap u = hk s.heap v → u = v) : SrtO.SortableO prog w A s a vs (hlt s.heap) := by
  intro h' keep
  have kt : ∀ b o, s.heap.get? b = some o → o.cls = .type "tuple" → h'.get? b = some o := fun b o e c => keep b o (fun z => by
    subst z
    rw [ha o e] at c
    injection c with c
    exact absurd c (by decide)) e
  have ht' : HTups h' vs := fun v hv => let ⟨x, q⟩ := ht v hv; ⟨x, q.keeps kt⟩
  obtain ⟨fs, k1, k2, k3⟩ := htups_firsts vs ht'
  refine ⟨tuples' true, fun Q E hq => ?_, fun p q hp hq => ?_⟩
  · exact PySem.W.kat_kind (T := Value.type "str") k1 (by omega) (fun f hf => by
      obtain ⟨x, t, rfl⟩ := k3 f hf
      exact PySem.W.Looks.of_pure rfl) rfl hq
  · obtain ⟨x, tx⟩ := ht p.1 hp
    obtain ⟨y, ty⟩ := ht q.1 hq
    refine tup_lt (s := { s with heap := h' }) (tx.keeps kt) (ty.keeps kt) (fun hne hxy => hne (hd _ hp _ hq (by rw [tx.hk, ty.hk, hxy]))) ⟨rfl, ?_⟩
    show decide (x.cps.toList < y.cps.toList) = decide (hk s.heap p.1 < hk s.heap q.1)
    rw [tx.hk, ty.hk]
theorem strs_sortable {a : Addr} {vs : List Value} (h2 : 2 ≤ vs.length) (ht : ∀ v ∈ vs, ∃ x t, v = Value.str x t) (h : Heap) : SrtO.SortableO prog w A s a vs (hlt h) := by
  intro h' keep
  refine ⟨oneType', fun Q E hq => ?_, fun p q hp hq => ?_⟩
  · exact PySem.W.kas_kind (T := Value.type "str") h2 (fun f hf => by
      obtain ⟨x, t, rfl⟩ := ht f hf
      exact PySem.W.Looks.of_pure rfl) rfl rfl hq
  · obtain ⟨x, t, e⟩ := ht p.1 hp
    obtain ⟨y, u, e'⟩ := ht q.1 hq
    show wpAny (model prog w) A (keyLt' oneType' p.1 q.1) (fun r s' => s' = { s with heap := h' } ∧ r = decide (hk h p.1 < hk h q.1)) (fun _ _ => False) { s with heap := h' }
    rw [e, e']
    exact PySem.W.kas_lt_str ⟨rfl, rfl⟩
end

/-! ## .. by data -/
def D.skey : D → List Nat
  | .str x => x.cps.toList
  | .tup (.str x :: _) => x.cps.toList
  | _ => []
def D.isStr : D → Bool
  | .str _ => true
  | _ => false
def D.isHT : D → Bool
  | .tup (.str _ :: _) => true
  | _ => false
def leK (a b : D) : Bool := !decide (b.skey < a.skey)
def sortK (ds : List D) : List D := ds.mergeSort leK
theorem leK_trans (a b c : D) (h1 : leK a b = true) (h2 : leK b c = true) : leK a c = true := by
  unfold leK at *
  rw [Bool.not_eq_true', decide_eq_false_iff_not, List.not_lt] at *
  exact List.le_trans h1 h2
theorem leK_total (a b : D) : (leK a b || leK b a) = true := by
  unfold leK
  rcases List.le_total a.skey b.skey with h | h
  · have := List.not_lt.mpr h
    simp [this]
  · have := List.not_lt.mpr h
    simp [this]
inductive F2 {α β : Type} (R : α → β → Prop) : List α → List β → Prop
  | nil : F2 R [] []
  | cons {a : α} {b : β} {l : List α} {m : List β} : R a b → F2 R l m → F2 R (a :: l) (b :: m)
theorem F2.perm {α β : Type} {R : α → β → Prop} {l l' : List α} (p : l.Perm l') : ∀ {m' : List β}, F2 R l' m' → ∃ m, F2 R l m ∧ m.Perm m' := by
  induction p with
  | nil => intro m' h; exact ⟨m', h, .refl _⟩
  | cons a _ ih =>
    intro m' h
    cases h with
    | cons r t =>
      obtain ⟨m, t', p'⟩ := ih t
      exact ⟨_, .cons r t', p'.cons _⟩
  | swap a b l =>
    intro m' h
    cases h with
    | cons r1 t => cases t with
      | cons r2 t => exact ⟨_, .cons r2 (.cons r1 t), .swap _ _ _⟩
  | trans _ _ ih1 ih2 =>
    intro m' h
    obtain ⟨m1, t1, p1⟩ := ih2 h
    obtain ⟨m2, t2, p2⟩ := ih1 t1
    exact ⟨m2, t2, p2.trans p1⟩
theorem F2.get {α β : Type} {R : α → β → Prop} : ∀ {l : List α} {m : List β} {i : Nat} {a : α}, F2 R l m → l[i]? = some a → ∃ b, m[i]? = some b ∧ R a b
  | _, _, i, a, .nil, e => by simp at e
  | _, _, 0, a, .cons (b := b) r t, e => by simp at e; subst e; exact ⟨b, rfl, r⟩
  | _, _, i + 1, a, .cons r t, e => by
    obtain ⟨b, e1, q⟩ := F2.get (i := i) t (by simpa using e)
    exact ⟨b, by simpa using e1, q⟩
theorem F2.mem {α β : Type} {R : α → β → Prop} {l : List α} {m : List β} (h : F2 R l m) {a : α} (ha : a ∈ l) : ∃ b ∈ m, R a b := by
  obtain ⟨i, hi⟩ := List.getElem?_of_mem ha
  obtain ⟨b, hb, r⟩ := h.get hi
  exact ⟨b, List.mem_of_getElem? hb, r⟩
theorem F2.pairwise {α β : Type} {R : α → β → Prop} {P : α → α → Prop} {P' : β → β → Prop} (hp : ∀ a a' b b', R a b → R a' b' → P a a' → P' b b') : ∀ {l : List α} {m : List β}, F2 R l m → l.Pairwise P → m.Pairwise P'
  | _, _, .nil, _ => .nil
  | _, _, .cons r t, q => by
    rw [List.pairwise_cons] at q ⊢
    refine ⟨fun b' hb' => ?_, F2.pairwise hp t q.2⟩
    have flip : ∀ {l : List α} {m : List β}, F2 R l m → b' ∈ m → ∃ a ∈ l, R a b' := by
      intro l m h
      induction h with
      | nil => intro z; cases z
      | cons r t ih =>
        intro z
        rcases List.mem_cons.mp z with rfl | z
        · exact ⟨_, List.mem_cons_self, r⟩
        · obtain ⟨a, m1, m2⟩ := ih z
          exact ⟨a, List.mem_cons_of_mem _ m1, m2⟩
    obtain ⟨a', ma, ra⟩ := flip t hb'
    exact hp _ _ _ _ r ra (q.1 a' ma)
def Tri (K : PySem.W.Frag) (G : Hp) (A : List Addr) (u : Value) (p : V × D) : Prop := RelV p.1 u ∧ Dn K G A p.1 p.2
theorem tri_of {K : PySem.W.Frag} {G : Hp} {A : List Addr} : ∀ {vs : List V} {us : List Value} {ds : List D}, Vals vs us → DnAll K G A vs ds → F2 (Tri K G A) us (vs.zip ds)
  | _, _, _, .nil, .nil => .nil
  | _, _, _, .cons r t, .cons n m => .cons ⟨r, n⟩ (tri_of t m)
theorem of_tri {K : PySem.W.Frag} {G : Hp} {A : List Addr} : ∀ {us : List Value} {ps : List (V × D)}, F2 (Tri K G A) us ps → Vals (ps.map (·.1)) us ∧ DnAll K G A (ps.map (·.1)) (ps.map (·.2))
  | _, _, .nil => ⟨.nil, .nil⟩
  | _, _, .cons r t => ⟨.cons r.1 (of_tri t).1, .cons r.2 (of_tri t).2⟩
def sortedD : List D → Option D := one fun d => on1 D.lst? d fun xs => if xs.length ≤ 1000000 ∧ (xs.all D.isStr = true ∨ (xs.all D.isHT = true ∧ (xs.map D.skey).Nodup)) then some (.lst (sortK xs)) else none
section
variable {X : Cx}
theorem call_sortedD : CallR X (.builtin "sorted") (rDs X.K sortedD) := by
  intro pins s σ H xs us Q I r ⟨G, A, S, ds, z, R, hds, hgs, q⟩
  obtain ⟨d, rfl, hg⟩ := one_eq hgs
  obtain ⟨x, rfl, hd⟩ := hds.one
  clear hgs hds
  obtain ⟨es, h1, hk'⟩ := on1_eq hg
  clear hg
  cases D.lst?_eq h1
  split at hk'
  · rename_i hc
    cases hk'
    obtain ⟨a, vs, rfl, s1, t1⟩ := hd.lstE R
    obtain ⟨its, rv, hl, hz⟩ := I.list s1.sq
    rw [Vals.ref1 r]
    have T := tri_of rv t1
    have zs : (vs.zip es).map (·.2) = es := List.map_snd_zip (by rw [t1.length]; exact Nat.le_refl _)
    have zv : (vs.zip es).map (·.1) = vs := List.map_fst_zip (by rw [t1.length]; exact Nat.le_refl _)
    -- the keys
    have key : ∀ u p, p.2 ∈ es → Tri X.K G A u p → hk s.heap u = p.2.skey ∧ (p.2.isStr = true → ∃ x t, u = Value.str x t) ∧ (p.2.isHT = true → ∃ x, HTup s.heap u x) := by
      rintro u ⟨v, d⟩ hm ⟨ru, nd⟩
      have hcase : d.isStr = true ∨ d.isHT = true := by
        rcases hc.2 with h | h
        · exact .inl (List.all_eq_true.mp h d hm)
        · exact .inr (List.all_eq_true.mp h.1 d hm)
      have ru : RelV v u := ru
      have nd : Dn X.K G A v d := nd
      show hk s.heap u = d.skey ∧ (d.isStr = true → ∃ x t, u = Value.str x t) ∧ (d.isHT = true → ∃ x, HTup s.heap u x)
      cases d with
      | str x =>
        cases nd
        obtain ⟨t, rfl⟩ := ru
        exact ⟨rfl, fun _ => ⟨x, t, rfl⟩, fun h => by simp [D.isHT] at h⟩
      | tup ys =>
        cases ys with
        | nil => simp [D.isStr, D.isHT] at hcase
        | cons y ys =>
          cases y with
          | str x =>
            obtain ⟨b, ws, rfl, hb, tb⟩ := (Dv.of nd : Dv X.K G A H v (.tup (.str x :: ys))).tupE R
            cases ru
            obtain ⟨its2, rv2, ⟨o, ho, hcl, n, hdt⟩, hz2⟩ := I.tuple hb.sq
            cases tb with
            | cons n1 n2 =>
              cases n1
              cases rv2 with
              | cons r1 r2 =>
                obtain ⟨t, rfl⟩ := r1
                have ht : HTup s.heap (.ref b) x := ⟨b, o, _, n, t, rfl, ho, hcl, hdt, rfl⟩
                exact ⟨ht.hk, fun h => by simp [D.isStr] at h, fun _ => ⟨x, ht⟩⟩
          | _ => simp [D.isStr, D.isHT] at hcase
      | _ => simp [D.isStr, D.isHT] at hcase
    have inE : ∀ {u : Value}, u ∈ its → ∃ p, p ∈ vs.zip es ∧ p.2 ∈ es ∧ Tri X.K G A u p := fun {u} hu => by
      obtain ⟨p, hp, tp⟩ := T.mem hu
      exact ⟨p, hp, by rw [← zs]; exact List.mem_map_of_mem hp, tp⟩
    have anti : ∀ a b, a ∈ es → b ∈ es → leK a b = true → leK b a = true → a = b := by
      intro a b ha hb h1 h2
      unfold leK at h1 h2
      rw [Bool.not_eq_true', decide_eq_false_iff_not, List.not_lt] at h1 h2
      have he : a.skey = b.skey := List.le_antisymm h2 h1 |>.symm
      rcases hc.2 with h | ⟨h, hn⟩
      · have i1 := List.all_eq_true.mp h a ha
        have i2 := List.all_eq_true.mp h b hb
        cases a with
        | str x => cases b with
          | str y => rw [cps_inj (show x.cps.toList = y.cps.toList from he)]
          | _ => simp [D.isStr] at i2
        | _ => simp [D.isStr] at i1
      · obtain ⟨i, hi, e1⟩ := List.getElem_of_mem ha
        obtain ⟨j, hj, e2⟩ := List.getElem_of_mem hb
        have : i = j := by
          have g1 : (es.map D.skey)[i]? = some a.skey := by rw [List.getElem?_map, List.getElem?_eq_getElem hi, e1]; rfl
          have g2 : (es.map D.skey)[j]? = some b.skey := by rw [List.getElem?_map, List.getElem?_eq_getElem hj, e2]; rfl
          obtain ⟨l1, f1⟩ := List.getElem?_eq_some_iff.mp g1
          obtain ⟨l2, f2⟩ := List.getElem?_eq_some_iff.mp g2
          exact (List.getElem_inj hn).mp (by rw [f1, f2, he])
        subst this
        rw [← e1, ← e2]
    have fin : ∀ out : List Value, SrtO.Srtd (hlt s.heap) out → SrtO.Stb (hlt s.heap) out its → EP X pins σ Q (.ref (s.heap.objs.size + 1)) { s with heap := PyProof.Rows.sortedAll s.heap its out.toArray } := by
      intro out so sb
      obtain ⟨ps, f1, p1⟩ := F2.perm sb.perm T
      obtain ⟨o1, o2⟩ := of_tri f1
      have pm : (ps.map (·.2)).Perm es := by
        have := p1.map (·.2)
        rw [zs] at this
        exact this
      have memE : ∀ p ∈ ps, p.2 ∈ es := fun p hp => pm.mem_iff.mp (List.mem_map_of_mem hp)
      have srt : (ps.map (·.2)).Pairwise fun a b => leK a b = true := by
        rw [List.pairwise_map]
        have f2 : F2 (fun u p => Tri X.K G A u p ∧ p.2 ∈ es) out ps := by
          clear so sb o1 o2 pm p1
          induction f1 with
          | nil => exact .nil
          | cons r t ih => exact .cons ⟨r, memE _ List.mem_cons_self⟩ (ih fun p hp => memE p (List.mem_cons_of_mem _ hp))
        refine F2.pairwise (fun a a' b b' ⟨r1, m1⟩ ⟨r2, m2⟩ h => ?_) f2 so
        have h' := of_decide_eq_false (p := hk s.heap a' < hk s.heap a) h
        rw [(key _ _ m1 r1).1, (key _ _ m2 r2).1] at h'
        unfold leK
        rw [decide_eq_false h']
        rfl
      have eq : ps.map (·.2) = sortK es := by
        refine List.Perm.eq_of_pairwise (le := fun a b => leK a b = true) (fun a b ha hb => anti a b (pm.mem_iff.mp ha) ((List.mergeSort_perm es leK).mem_iff.mp hb)) srt (List.pairwise_mergeSort leK_trans leK_total es) (pm.trans (List.mergeSort_perm es leK).symm)
      rw [eq] at o2
      obtain ⟨ep, he'⟩ := PyProof.Rows.sortedAll_at s.heap its out.toArray
      have hlen : (ps.map (·.1)).length ≤ sizeLine := by
        rw [o2.length]
        unfold sortK
        rw [List.length_mergeSort]
        exact small_line hc.1
      have hf : H (s.heap.objs.size + 1) = none := I.hok.fresh (Nat.le_succ _)
      have ee := R.exNew hf (.lst (ps.map (·.1)))
      exact ⟨.ref _, upd H (s.heap.objs.size + 1) (.lst (ps.map (·.1))), I.laid (t' := s.toks) (fun _ _ => PyProof.Rows.sortedAll_old) (Nat.le_succ _) ⟨hlen, out, ep, o1, he'⟩, rfl,
        q _ _ _ ee (R.new hf _) (.lst (.inl (.of upd_same)) (o2.mono ee.g ee.p))⟩
    refine SrtO.sorted_ord (swo_hlt s.heap) hl.isList (by rw [← rv.length]; exact hz) (fun h2 h₁ a' ha' keep => ?_) fin
    rcases hc.2 with h | ⟨h, hn⟩
    · refine strs_sortable h2 (fun u hu => ?_) s.heap
      obtain ⟨p, hp, hm, tp⟩ := inE hu
      exact (key _ _ hm tp).2.1 (List.all_eq_true.mp h _ hm)
    · have ht : HTups s.heap its := fun u hu => by
        obtain ⟨p, hp, hm, tp⟩ := inE hu
        exact (key _ _ hm tp).2.2 (List.all_eq_true.mp h _ hm)
      have kt : ∀ b o, s.heap.get? b = some o → o.cls = .type "tuple" → h₁.get? b = some o := fun b o e _ => (keep b o e).2
      have hkE : ∀ u ∈ its, hk h₁ u = hk s.heap u := fun u hu => by
        obtain ⟨x, tx⟩ := ht u hu
        rw [tx.hk, (tx.keeps kt).hk]
      have so := tups_sortable (prog := X.prog) (w := X.w) (A := X.A.in1.in1) (s := { s with heap := h₁ }) (a := a') h2 (fun u hu => let ⟨x, tx⟩ := ht u hu; ⟨x, tx.keeps kt⟩) (fun o e => by rw [ha'] at e; cases e; rfl) (fun u hu v hv e => by
        rw [hkE u hu, hkE v hv] at e
        obtain ⟨i, hi⟩ := List.getElem?_of_mem hu
        obtain ⟨j, hj⟩ := List.getElem?_of_mem hv
        obtain ⟨p, hp, tp⟩ := T.get hi
        obtain ⟨p', hp', tp'⟩ := T.get hj
        have mp : p.2 ∈ es := by rw [← zs]; exact List.mem_map_of_mem (List.mem_of_getElem? hp)
        have mp' : p'.2 ∈ es := by rw [← zs]; exact List.mem_map_of_mem (List.mem_of_getElem? hp')
        rw [(key _ _ mp tp).1, (key _ _ mp' tp').1] at e
        have g1 : (es.map D.skey)[i]? = some p.2.skey := by rw [← zs]; simp [hp]
        have g2 : (es.map D.skey)[j]? = some p'.2.skey := by rw [← zs]; simp [hp']
        obtain ⟨l1, f1⟩ := List.getElem?_eq_some_iff.mp g1
        obtain ⟨l2, f2⟩ := List.getElem?_eq_some_iff.mp g2
        have : i = j := (List.getElem_inj hn).mp (by rw [f1, f2, e])
        subst this
        rw [hi] at hj
        exact Option.some.inj hj)
      intro h' kk
      obtain ⟨κ, c1, c2⟩ := so h' kk
      refine ⟨κ, c1, fun p q hp hq => ?_⟩
      have := c2 p q hp hq
      have e1 : SrtO.lt2 (hlt h₁) p q = SrtO.lt2 (hlt s.heap) p q := by
        show decide (hk h₁ p.1 < hk h₁ q.1) = decide (hk s.heap p.1 < hk s.heap q.1)
        rw [hkE _ hp, hkE _ hq]
      rw [← e1]
      exact this
  · cases hk'
end
end FL
end

section
set_option Elab.async false
set_option linter.all false
set_option maxRecDepth 100000
set_option autoImplicit false
set_option maxHeartbeats 2000000
namespace FL
open PySem PySem.Spec PyProof.Rows L2

/-! ## comprehensions of two clauses -/
theorem wipe_wipe (s : L2.St) (vs : List Nat) : wipe (wipe s vs) vs = wipe s vs := by
  have key : ∀ ws us : List Nat, (∀ x ∈ us, x ∈ ws) → wipe (wipe s us) ws = wipe s ws := by
    intro ws us
    induction us with
    | nil => intro _; rfl
    | cons u us ih =>
      intro hm
      have e1 : wipe s (u :: us) = (wipe s us).set u none := rfl
      rw [e1, wipe_set (hm u List.mem_cons_self), ih fun x hx => hm x (List.mem_cons_of_mem _ hx)]
  exact key vs vs fun x hx => hx
section
variable {X : Cx} {EE : XK}
/-- the state within the inner loop -/
def InSt (X : Cx) (A1 : List Addr) (G1 H1 : Hp) (A2 : List Addr) (G2 : Hp) (L : Addr) (m : List D → Sto → Prop) (H : Hp) : Prop :=
  ∃ G' A' S' acc accv, Ex A1 G1 H1 A' G' H ∧ Lat A2 G2 A' G' ∧ L ∉ A' ∧ G' L = none ∧ H L = some (.lst accv) ∧ DnAll X.K G' A' accv acc ∧ Rel X.K A' S' G' H ∧ m acc S'
theorem comp_in {W : WR} {vs : List Nat} {b : FGx} {t : FTx} {e : FEx} {s : L2.St} {r : Env} {ds : List D} {G1 H1 G2 H2 : Hp} {A1 A2 : List Addr} {J : It} {L : Addr} {PQ : List D → Sto → Prop} {PE' : Exn → Sto → Prop}
    (hr : EnvR X.K G2 A2 s r) (hL0 : H1 L = none) (Y : Yields X W G2 A2 H2 J ds) (i : Nat) (H : Hp) (hle : i ≤ ds.length)
    (st : InSt X A1 G1 H1 A2 G2 L (fun acc S' => (compD b t e (wipeE r vs) (ds.drop i) acc S').post PQ PE') H) :
      (J.stop i H ∧ InSt X A1 G1 H1 A2 G2 L PQ H) ∨ (J.go i H ∧ i < ds.length ∧ ∀ x H', J.yld i H x H' → RGc X W vs b x (wipe s vs) H' fun s2 H2 => wipe s2 vs = wipe s vs ∧ RT X E0 t s2 H2 fun k H3 =>
        if k = true then RE X E0 e s2 H3 fun y H4 => ∃ acc, H4 L = some (.lst acc) ∧ acc.length < sizeLine ∧
          InSt X A1 G1 H1 A2 G2 L (fun acc S' => (compD b t e (wipeE r vs) (ds.drop (i + 1)) acc S').post PQ PE') (upd H4 L (.lst (acc ++ [y])))
        else InSt X A1 G1 H1 A2 G2 L (fun acc S' => (compD b t e (wipeE r vs) (ds.drop (i + 1)) acc S').post PQ PE') H3) := by
  obtain ⟨G', A', S', acc, accv, ex, lt, hL, gL, HL, na, hR', q'⟩ := st
  by_cases hi : i < ds.length
  · have ed : ds[i]? = some ds[i] := List.getElem?_eq_getElem hi
    rw [List.drop_eq_getElem_cons hi] at q'
    refine .inr ⟨Y.go G' A' S' H i _ lt hR' ed, hi, fun x H2 hy => ?_⟩
    obtain ⟨G2, ex2, R2, w2⟩ := Y.yld G' A' S' H i _ x H2 lt hR' ed hy
    have q' : (bnd (noEx (b ds[i] (wipeE r vs))) (fun r1 => bnd (noEx (t r1)) fun k => if k = true then bnd (noEx (e r1)) fun x => if acc.length < 1000000 then compD b t e (wipeE r vs) (ds.drop (i + 1)) (acc ++ [x]) else fun _ => .no else compD b t e (wipeE r vs) (ds.drop (i + 1)) acc) S').post PQ PE' := q'
    rw [post_bnd] at q'
    have l12 := lt.trans ex2.lat
    refine ⟨wipeE r vs, G2, A', S', ds[i], (envR_wipe hr vs).mono l12.g l12.p, R2, w2, (post_noEx q').mono (fun r3 S3 q3 => ?_) fun _ _ z => z⟩
    intro G3 A3 H3 s3 e3 R3 hr3 hw3
    refine ⟨hw3.trans (wipe_wipe s vs), ?_⟩
    rw [post_bnd] at q3
    refine ⟨r3, G3, A3, S3, hr3, R3, (post_noEx q3).mono (fun k S4 q4 => ?_) fun _ _ z => z⟩
    intro G4 A4 H4 e4 R4
    have e24 := (ex2.trans e3).trans e4
    obtain ⟨n4, L4⟩ := e24.f L _ hL HL
    have g4 := e24.k L _ HL gL
    cases k with
    | true =>
      rw [if_pos rfl] at q4 ⊢
      rw [post_bnd] at q4
      refine ⟨r3, G4, A4, S4, hr3.mono e4.g e4.p, R4, (post_noEx q4).mono (fun d5 S5 q5 => ?_) fun _ _ z => z⟩
      intro G5 A5 H5 y e5 R5 n5
      obtain ⟨nL5, L5⟩ := e5.f L _ n4 L4
      have g5 := e5.k L _ L4 g4
      split at q5
      · rename_i hlen
        have e25 := e24.trans e5
        have hl : accv.length < sizeLine := by
          rw [na.length]
          exact Nat.lt_of_lt_of_le hlen (by decide)
        exact ⟨accv, L5, hl, G5, A5, S5, acc ++ [d5], accv ++ [y], (ex.trans e25).beside hL0 _, lt.trans e25.lat, nL5, g5, upd_same, (na.mono e25.g e25.p).append (.cons n5 .nil), R5.beside g5 nL5 _, q5⟩
      · exact q5.elim
    | false =>
      rw [if_neg Bool.false_ne_true] at q4 ⊢
      exact ⟨G4, A4, S4, acc, accv, ex.trans e24, lt.trans e24.lat, n4, g4, L4, na.mono e24.g e24.p, R4, q4⟩
  · rw [List.drop_of_length_le (by omega)] at q'
    have ei : i = ds.length := by omega
    exact .inl ⟨ei ▸ Y.stop G' A' S' H lt hR', G', A', S', acc, accv, ex, lt, hL, gL, HL, na, hR', q'⟩
def compD2 (b : FGx) (t : FTx) (fi1 : FAx) (vs1 : List Nat) (b1 : FGx) (t1 : FTx) (e : FEx) (r0 : Env) : List D → List D → M (List D)
  | [], acc => ret acc
  | d :: ds, acc => bnd (noEx (b d r0)) fun r1 => bnd (noEx (t r1)) fun k => if k = true then bnd (noEx (fi1 r1)) fun es => bnd (noEx (compD b1 t1 e (wipeE r1 vs1) es acc)) fun acc' => compD2 b t fi1 vs1 b1 t1 e r0 ds acc' else compD2 b t fi1 vs1 b1 t1 e r0 ds acc
def eCompL2 (vs : List Nat) (fi : FAx) (b : FGx) (t : FTx) (fi1 : FAx) (vs1 : List Nat) (b1 : FGx) (t1 : FTx) (e : FEx) : FAx := fun r => bnd (fi r) fun ds => compD2 b t fi1 vs1 b1 t1 e (wipeE r vs) ds []
theorem to_comp2 {W W1 : WR} {vs vs1 : List Nat} {fi fi1 : FAx} {b b1 : FGx} {t t1 : FTx} {e : FEx} {s : L2.St} {H : Hp} {Q : VK} {r : Env} {G : Hp} {A : List Addr} {S : Sto} {P : D → Sto → Prop} {k : List D → M D} (hr : EnvR X.K G A s r) (hR : Rel X.K A S G H)
    (q : (bnd (eCompL2 vs fi b t fi1 vs1 b1 t1 e r) k S).post P (QE X.K X.mg EE G A H))
    (fin : ∀ G1 A1 H1 S1 L G' A' H' acc accv, Ex A G H A1 G1 H1 → H1 L = none → Ex A1 G1 H1 A' G' H' → L ∉ A' → G' L = none → H' L = some (.lst accv) → DnAll X.K G' A' accv acc → Rel X.K A' S1 G' H' → (k acc S1).post P (QE X.K X.mg EE G A H) → Q (.ref L) H') :
    tLc2 (RI X EE W fi) (RGc X W vs b) (RT X E0 t) (RI X E0 W1 fi1) (RGc X W1 vs1 b1) (RT X E0 t1) (RE X E0 e) vs vs1 s H Q := by
  unfold eCompL2 at q
  rw [post_bnd, post_bnd] at q
  refine ⟨r, G, A, S, hr, hR, q.mono (fun ds S1 q1 => ?_) fun _ _ z => z⟩
  intro G1 A1 H1 J e1 R1 Y L hL
  refine ⟨fun i m Hh => i + m = ds.length ∧ InSt X A1 G1 H1 A1 G1 L (fun acc S' => (compD2 b t fi1 vs1 b1 t1 e (wipeE r vs) (ds.drop i) acc S').post (fun acc S' => (k acc S').post P (QE X.K X.mg EE G A H)) (QE X.K X.mg EE G A H)) Hh,
    ⟨ds.length, Nat.zero_add _, G1, A1, S1, [], [], Ex.refl.beside hL _, Ex.refl.lat (H := H1), R1.notin hL, R1.free hL, upd_same, .nil, R1.beside (R1.free hL) (R1.notin hL) _, q1⟩, ?_⟩
  rintro i m H' ⟨hm, G', A', S', acc, accv, ex, lt, hLA, gL, HL, na, hR', q'⟩
  by_cases hi : i < ds.length
  · have ed : ds[i]? = some ds[i] := List.getElem?_eq_getElem hi
    rw [List.drop_eq_getElem_cons hi] at q'
    refine .inr ⟨Y.go G' A' S' H' i _ lt hR' ed, fun Hh => InSt X A1 G1 H1 A1 G1 L (fun acc S' => (compD2 b t fi1 vs1 b1 t1 e (wipeE r vs) (ds.drop (i + 1)) acc S').post (fun acc S' => (k acc S').post P (QE X.K X.mg EE G A H)) (QE X.K X.mg EE G A H)) Hh,
      fun H2 h2 => ⟨m - 1, by omega, by omega, h2⟩, fun x H2 hy => ?_⟩
    obtain ⟨G2, ex2, R2, w2⟩ := Y.yld G' A' S' H' i _ x H2 lt hR' ed hy
    have q' : (bnd (noEx (b ds[i] (wipeE r vs))) (fun r1 => bnd (noEx (t r1)) fun k => if k = true then bnd (noEx (fi1 r1)) fun es => bnd (noEx (compD b1 t1 e (wipeE r1 vs1) es acc)) fun acc' => compD2 b t fi1 vs1 b1 t1 e (wipeE r vs) (ds.drop (i + 1)) acc' else compD2 b t fi1 vs1 b1 t1 e (wipeE r vs) (ds.drop (i + 1)) acc) S').post (fun acc S' => (k acc S').post P (QE X.K X.mg EE G A H)) (QE X.K X.mg EE G A H) := q'
    rw [post_bnd] at q'
    have l12 := (e1.lat.trans lt).trans ex2.lat
    refine ⟨wipeE r vs, G2, A', S', ds[i], (envR_wipe hr vs).mono l12.g l12.p, R2, w2, (post_noEx q').mono (fun r3 S3 q3 => ?_) fun _ _ z => z⟩
    intro G3 A3 H3 s3 e3 R3 hr3 hw3
    refine ⟨hw3.trans (wipe_wipe s vs), ?_⟩
    rw [post_bnd] at q3
    refine ⟨r3, G3, A3, S3, hr3, R3, (post_noEx q3).mono (fun kk S4 q4 => ?_) fun _ _ z => z⟩
    intro G4 A4 H4 e4 R4
    have e24 := (ex2.trans e3).trans e4
    obtain ⟨n4, L4⟩ := e24.f L _ hLA HL
    have g4 := e24.k L _ HL gL
    cases kk with
    | false =>
      rw [if_neg Bool.false_ne_true] at q4 ⊢
      exact ⟨G4, A4, S4, acc, accv, ex.trans e24, lt.trans e24.lat, n4, g4, L4, na.mono e24.g e24.p, R4, q4⟩
    | true =>
      rw [if_pos rfl] at q4 ⊢
      rw [post_bnd] at q4
      refine ⟨r3, G4, A4, S4, hr3.mono e4.g e4.p, R4, (post_noEx q4).mono (fun es S5 q5 => ?_) fun _ _ z => z⟩
      intro G5 A5 H5 J1 e5 R5 Y1
      obtain ⟨n5, L5⟩ := e5.f L _ n4 L4
      have g5 := e5.k L _ L4 g4
      have e25 := e24.trans e5
      rw [post_bnd] at q5
      refine ⟨fun j kx Hh => j + kx = es.length ∧ InSt X A1 G1 H1 A5 G5 L (fun acc S' => (compD b1 t1 e (wipeE r3 vs1) (es.drop j) acc S').post (fun acc' S' => (compD2 b t fi1 vs1 b1 t1 e (wipeE r vs) (ds.drop (i + 1)) acc' S').post (fun acc S' => (k acc S').post P (QE X.K X.mg EE G A H)) (QE X.K X.mg EE G A H)) (fun _ _ => False)) Hh,
        ⟨es.length, Nat.zero_add _, G5, A5, S5, acc, accv, ex.trans e25, Ex.refl.lat (H := H5), n5, g5, L5, na.mono e25.g e25.p, R5, post_noEx q5⟩, ?_⟩
      rintro j kx H6 ⟨hj, st⟩
      rcases comp_in (s := s3) (r := r3) (hr3.mono (e4.trans e5).g (e4.trans e5).p) hL Y1 j H6 (by omega) st with ⟨h1, h2⟩ | ⟨go, hlt, h⟩
      · obtain ⟨G', A', S', acc, accv, a1, a2, a3, a4, a5, a6, a7, a8⟩ := h2
        exact .inl ⟨h1, G', A', S', acc, accv, a1, a1.lat, a3, a4, a5, a6, a7, a8⟩
      · exact .inr ⟨go, _, fun H2 h2 => ⟨kx - 1, by omega, by omega, h2⟩, h⟩
  · rw [List.drop_of_length_le (by omega)] at q'
    have ei : i = ds.length := by omega
    exact .inl ⟨ei ▸ Y.stop G' A' S' H' lt hR', fin G1 A1 H1 S' L G' A' H' acc accv e1 hL ex hLA gL HL na hR' q'⟩
theorem fi_blk {W : WR} {s : Shared} {H : Hp} {scope : Scope} {cenv : PySem.Env} {fp : List Addr} {tg iter : Expr} {f : FAx} (h : FI (X.blk s H scope cenv fp) E0 W tg iter f) : PI (X.blk s H scope cenv fp) tg iter (RI X E0 W f) :=
  pi_weak h fun s H K ⟨r, G, A, S, hr, hR, q⟩ => ⟨r, G, A, S, hr, hR, q.mono (fun ds S' z G' A' H' J a b c => z G' A' H' J a b ⟨c.stop, c.go, c.yld⟩) fun _ _ z => z⟩
def eComp2 (vs : List Nat) (fi : FAx) (b : FGx) (t : FTx) (fi1 : FAx) (vs1 : List Nat) (b1 : FGx) (t1 : FTx) (e : FEx) : FEx := fun r => bnd (eCompL2 vs fi b t fi1 vs1 b1 t1 e r) fun xs => ret (.lst xs)
section
variable {W W1 : WR} {elt tg iter tg1 iter1 : Expr} {ifs ifs1 : List Expr} {scope : Scope} {own : List (Str × Nat)} {vs1 : List Nat} {pos : Pos} {fi fi1 : FAx} {b b1 : FGx} {t t1 : FTx} {e : FEx}
theorem fe_comp2 (hc : X.calm = true) (hN : X.N.Nodup) (hi : FI X EE W tg iter fi) (ok : BlkOk X.N X.env.scope scope own) (hv : ∀ i ∈ vs1, i ∈ own.map (·.2))
    (hg : ∀ (s : Shared) (H : Hp) (C : Addr) (cl : List (Str × Addr)) (fp : List Addr), PG (X.blk s H scope (compEnvC scope cl C X.env) fp) tg (RGc X W (own.map (·.2)) b))
    (ht : ∀ (s : Shared) (H : Hp) (C : Addr) (cl : List (Str × Addr)) (fp : List Addr), FTs (X.blk s H scope (compEnvC scope cl C X.env) fp) ifs t)
    (hi1 : ∀ (s : Shared) (H : Hp) (C : Addr) (cl : List (Str × Addr)) (fp : List Addr), FI (X.blk s H scope (compEnvC scope cl C X.env) fp) E0 W1 tg1 iter1 fi1)
    (hg1 : ∀ (s : Shared) (H : Hp) (C : Addr) (cl : List (Str × Addr)) (fp : List Addr), PG (X.blk s H scope (compEnvC scope cl C X.env) fp) tg1 (RGc X W1 vs1 b1))
    (ht1 : ∀ (s : Shared) (H : Hp) (C : Addr) (cl : List (Str × Addr)) (fp : List Addr), FTs (X.blk s H scope (compEnvC scope cl C X.env) fp) ifs1 t1)
    (he : ∀ (s : Shared) (H : Hp) (C : Addr) (cl : List (Str × Addr)) (fp : List Addr), FE (X.blk s H scope (compEnvC scope cl C X.env) fp) E0 elt e) (hs : ∀ x, foldedSetIterable iter X.env x = pure x := by intro _; rfl) (hs1 : ∀ env x, foldedSetIterable iter1 env x = pure x := by intro _ _; rfl) :
    FE X EE (.ListComp elt [⟨tg, iter, ifs, 0⟩, ⟨tg1, iter1, ifs1, 0⟩] scope pos) (eComp2 (own.map (·.2)) fi b t fi1 vs1 b1 t1 e) := by
  refine pe_weak (pe_lc2 (tt := RT X E0 t) (tt1 := RT X E0 t1) (wi1 := RI X E0 W1 fi1) (te := RE X E0 e) hc hN hi ok hv hg ht (fun s H C cl fp => fi_blk (hi1 s H C cl fp)) hg1 ht1 he hs hs1) fun s H Q ⟨r, G, A, S, hr, hR, q⟩ => ?_
  refine to_comp2 hr hR q fun G1 A1 H1 S1 L G' A' H' acc accv e1 hL ex nL gL HL na R' q' => ?_
  exact q' _ A' H' _ ((e1.trans (ex.freeze hL gL _))) (R'.freeze gL nL HL) (.lst (.inl (.of upd_same)) (na.mono (upd_same_of gL) (Pre.refl _)))
theorem fs_setComp2 {i : Nat} {y : Str} {py spos : Pos} (hc : X.calm = true) (hN : X.N.Nodup) (hy : X.N[i]? = some y) (hyl : X.env.scope.names.lookup y = some .local)
    (hsw : swapsWith (.ListComp elt [⟨tg, iter, ifs, 0⟩, ⟨tg1, iter1, ifs1, 0⟩] scope pos) (some (.Name y py)) spos.line X.env = pure true) (hi : FI X EE W tg iter fi) (ok : BlkOk X.N X.env.scope scope own) (hv : ∀ i ∈ vs1, i ∈ own.map (·.2))
    (hg : ∀ (s : Shared) (H : Hp) (C : Addr) (cl : List (Str × Addr)) (fp : List Addr), PG (X.blk s H scope (compEnvC scope cl C X.env) fp) tg (RGc X W (own.map (·.2)) b))
    (ht : ∀ (s : Shared) (H : Hp) (C : Addr) (cl : List (Str × Addr)) (fp : List Addr), FTs (X.blk s H scope (compEnvC scope cl C X.env) fp) ifs t)
    (hi1 : ∀ (s : Shared) (H : Hp) (C : Addr) (cl : List (Str × Addr)) (fp : List Addr), FI (X.blk s H scope (compEnvC scope cl C X.env) fp) E0 W1 tg1 iter1 fi1)
    (hg1 : ∀ (s : Shared) (H : Hp) (C : Addr) (cl : List (Str × Addr)) (fp : List Addr), PG (X.blk s H scope (compEnvC scope cl C X.env) fp) tg1 (RGc X W1 vs1 b1))
    (ht1 : ∀ (s : Shared) (H : Hp) (C : Addr) (cl : List (Str × Addr)) (fp : List Addr), FTs (X.blk s H scope (compEnvC scope cl C X.env) fp) ifs1 t1)
    (he : ∀ (s : Shared) (H : Hp) (C : Addr) (cl : List (Str × Addr)) (fp : List Addr), FE (X.blk s H scope (compEnvC scope cl C X.env) fp) E0 elt e) (hs : ∀ x, foldedSetIterable iter X.env x = pure x := by intro _; rfl) (hs1 : ∀ env x, foldedSetIterable iter1 env x = pure x := by intro _ _; rfl) :
    FS X EE (.Assign [.Name y py] (.ListComp elt [⟨tg, iter, ifs, 0⟩, ⟨tg1, iter1, ifs1, 0⟩] scope pos) spos) (sAsg (eComp2 (own.map (·.2)) fi b t fi1 vs1 b1 t1 e) (gName' i)) := by
  refine ps_weak (ps_setLc2 (tt := RT X E0 t) (tt1 := RT X E0 t1) (wi1 := RI X E0 W1 fi1) (te := RE X E0 e) hc hN hy hyl hsw hi ok hv hg ht (fun s H C cl fp => fi_blk (hi1 s H C cl fp)) hg1 ht1 he hs hs1) fun T s H ⟨r, G, A, S, hr, hR, q⟩ => ?_
  unfold sAsg eComp2 at q
  rw [post_bnd, post_bnd] at q
  have q' : (bnd (eCompL2 (own.map (·.2)) fi b t fi1 vs1 b1 t1 e r) (fun xs => ret (.lst xs)) S).post (fun d S' => (bnd (gName' i d r) (fun r' => ret (.nx r')) S').post (QF X.K G A H T) (QE X.K X.mg EE G A H)) (QE X.K X.mg EE G A H) := by
    rw [post_bnd]
    exact q
  refine to_comp2 hr hR q' fun G1 A1 H1 S1 L G' A' H' acc accv e1 hL ex nL gL HL na R' q2 => ?_
  have e2 := e1.trans (ex.freeze hL gL (.lst accv))
  exact q2 _ A' H' _ e2 (R'.freeze gL nL HL) ((hr.mono e2.g e2.p).set (.lst (.inl (.of upd_same)) (na.mono (upd_same_of gL) (Pre.refl _))))
theorem fe_comp2N (hc : X.calm = true) (hN : X.N.Nodup) (hi : FI X EE W tg iter fi) (ok : BlkOk X.N X.env.scope scope own) (hv : ∀ i ∈ vs1, i ∈ own.map (·.2))
    (hg : ∀ (s : Shared) (H : Hp) (C : Addr) (cl : List (Str × Addr)) (fp : List Addr), PG (X.blk s H scope (compEnvC scope cl C X.env) fp) tg (RGc X W (own.map (·.2)) b))
    (ht : ∀ (s : Shared) (H : Hp) (C : Addr) (cl : List (Str × Addr)) (fp : List Addr), FTs (X.blk s H scope (compEnvC scope cl C X.env) fp) ifs t)
    (hi1 : ∀ (s : Shared) (H : Hp) (C : Addr) (cl : List (Str × Addr)) (fp : List Addr), FI (X.blk s H scope (compEnvC scope cl C X.env) fp) E0 (WN X) tg1 iter1 fi1)
    (hg1 : ∀ (s : Shared) (H : Hp) (C : Addr) (cl : List (Str × Addr)) (fp : List Addr), PG (X.blk s H scope (compEnvC scope cl C X.env) fp) tg1 (RGc X (WN X) vs1 b1))
    (ht1 : ∀ (s : Shared) (H : Hp) (C : Addr) (cl : List (Str × Addr)) (fp : List Addr), FTs (X.blk s H scope (compEnvC scope cl C X.env) fp) ifs1 t1)
    (he : ∀ (s : Shared) (H : Hp) (C : Addr) (cl : List (Str × Addr)) (fp : List Addr), FE (X.blk s H scope (compEnvC scope cl C X.env) fp) E0 elt e) (hs : ∀ x, foldedSetIterable iter X.env x = pure x := by intro _; rfl) (hs1 : ∀ env x, foldedSetIterable iter1 env x = pure x := by intro _ _; rfl) :
    FE X EE (.ListComp elt [⟨tg, iter, ifs, 0⟩, ⟨tg1, iter1, ifs1, 0⟩] scope pos) (eComp2 (own.map (·.2)) fi b t fi1 vs1 b1 t1 e) :=
  fe_comp2 (W1 := WN X) hc hN hi ok hv hg ht hi1 hg1 ht1 he hs hs1
theorem fe_comp2U (hc : X.calm = true) (hN : X.N.Nodup) (hi : FI X EE W tg iter fi) (ok : BlkOk X.N X.env.scope scope own) (hv : ∀ i ∈ vs1, i ∈ own.map (·.2))
    (hg : ∀ (s : Shared) (H : Hp) (C : Addr) (cl : List (Str × Addr)) (fp : List Addr), PG (X.blk s H scope (compEnvC scope cl C X.env) fp) tg (RGc X W (own.map (·.2)) b))
    (ht : ∀ (s : Shared) (H : Hp) (C : Addr) (cl : List (Str × Addr)) (fp : List Addr), FTs (X.blk s H scope (compEnvC scope cl C X.env) fp) ifs t)
    (hi1 : ∀ (s : Shared) (H : Hp) (C : Addr) (cl : List (Str × Addr)) (fp : List Addr), FI (X.blk s H scope (compEnvC scope cl C X.env) fp) E0 (WU X) tg1 iter1 fi1)
    (hg1 : ∀ (s : Shared) (H : Hp) (C : Addr) (cl : List (Str × Addr)) (fp : List Addr), PG (X.blk s H scope (compEnvC scope cl C X.env) fp) tg1 (RGc X (WU X) vs1 b1))
    (ht1 : ∀ (s : Shared) (H : Hp) (C : Addr) (cl : List (Str × Addr)) (fp : List Addr), FTs (X.blk s H scope (compEnvC scope cl C X.env) fp) ifs1 t1)
    (he : ∀ (s : Shared) (H : Hp) (C : Addr) (cl : List (Str × Addr)) (fp : List Addr), FE (X.blk s H scope (compEnvC scope cl C X.env) fp) E0 elt e) (hs : ∀ x, foldedSetIterable iter X.env x = pure x := by intro _; rfl) (hs1 : ∀ env x, foldedSetIterable iter1 env x = pure x := by intro _ _; rfl) :
    FE X EE (.ListComp elt [⟨tg, iter, ifs, 0⟩, ⟨tg1, iter1, ifs1, 0⟩] scope pos) (eComp2 (own.map (·.2)) fi b t fi1 vs1 b1 t1 e) :=
  fe_comp2 (W1 := WU X) hc hN hi ok hv hg ht hi1 hg1 ht1 he hs hs1
theorem fs_setComp2N {i : Nat} {y : Str} {py spos : Pos} (hc : X.calm = true) (hN : X.N.Nodup) (hy : X.N[i]? = some y) (hyl : X.env.scope.names.lookup y = some .local)
    (hsw : swapsWith (.ListComp elt [⟨tg, iter, ifs, 0⟩, ⟨tg1, iter1, ifs1, 0⟩] scope pos) (some (.Name y py)) spos.line X.env = pure true) (hi : FI X EE W tg iter fi) (ok : BlkOk X.N X.env.scope scope own) (hv : ∀ i ∈ vs1, i ∈ own.map (·.2))
    (hg : ∀ (s : Shared) (H : Hp) (C : Addr) (cl : List (Str × Addr)) (fp : List Addr), PG (X.blk s H scope (compEnvC scope cl C X.env) fp) tg (RGc X W (own.map (·.2)) b))
    (ht : ∀ (s : Shared) (H : Hp) (C : Addr) (cl : List (Str × Addr)) (fp : List Addr), FTs (X.blk s H scope (compEnvC scope cl C X.env) fp) ifs t)
    (hi1 : ∀ (s : Shared) (H : Hp) (C : Addr) (cl : List (Str × Addr)) (fp : List Addr), FI (X.blk s H scope (compEnvC scope cl C X.env) fp) E0 (WN X) tg1 iter1 fi1)
    (hg1 : ∀ (s : Shared) (H : Hp) (C : Addr) (cl : List (Str × Addr)) (fp : List Addr), PG (X.blk s H scope (compEnvC scope cl C X.env) fp) tg1 (RGc X (WN X) vs1 b1))
    (ht1 : ∀ (s : Shared) (H : Hp) (C : Addr) (cl : List (Str × Addr)) (fp : List Addr), FTs (X.blk s H scope (compEnvC scope cl C X.env) fp) ifs1 t1)
    (he : ∀ (s : Shared) (H : Hp) (C : Addr) (cl : List (Str × Addr)) (fp : List Addr), FE (X.blk s H scope (compEnvC scope cl C X.env) fp) E0 elt e) (hs : ∀ x, foldedSetIterable iter X.env x = pure x := by intro _; rfl) (hs1 : ∀ env x, foldedSetIterable iter1 env x = pure x := by intro _ _; rfl) :
    FS X EE (.Assign [.Name y py] (.ListComp elt [⟨tg, iter, ifs, 0⟩, ⟨tg1, iter1, ifs1, 0⟩] scope pos) spos) (sAsg (eComp2 (own.map (·.2)) fi b t fi1 vs1 b1 t1 e) (gName' i)) :=
  fs_setComp2 (W1 := WN X) hc hN hy hyl hsw hi ok hv hg ht hi1 hg1 ht1 he hs hs1
theorem fs_setComp2U {i : Nat} {y : Str} {py spos : Pos} (hc : X.calm = true) (hN : X.N.Nodup) (hy : X.N[i]? = some y) (hyl : X.env.scope.names.lookup y = some .local)
    (hsw : swapsWith (.ListComp elt [⟨tg, iter, ifs, 0⟩, ⟨tg1, iter1, ifs1, 0⟩] scope pos) (some (.Name y py)) spos.line X.env = pure true) (hi : FI X EE W tg iter fi) (ok : BlkOk X.N X.env.scope scope own) (hv : ∀ i ∈ vs1, i ∈ own.map (·.2))
    (hg : ∀ (s : Shared) (H : Hp) (C : Addr) (cl : List (Str × Addr)) (fp : List Addr), PG (X.blk s H scope (compEnvC scope cl C X.env) fp) tg (RGc X W (own.map (·.2)) b))
    (ht : ∀ (s : Shared) (H : Hp) (C : Addr) (cl : List (Str × Addr)) (fp : List Addr), FTs (X.blk s H scope (compEnvC scope cl C X.env) fp) ifs t)
    (hi1 : ∀ (s : Shared) (H : Hp) (C : Addr) (cl : List (Str × Addr)) (fp : List Addr), FI (X.blk s H scope (compEnvC scope cl C X.env) fp) E0 (WU X) tg1 iter1 fi1)
    (hg1 : ∀ (s : Shared) (H : Hp) (C : Addr) (cl : List (Str × Addr)) (fp : List Addr), PG (X.blk s H scope (compEnvC scope cl C X.env) fp) tg1 (RGc X (WU X) vs1 b1))
    (ht1 : ∀ (s : Shared) (H : Hp) (C : Addr) (cl : List (Str × Addr)) (fp : List Addr), FTs (X.blk s H scope (compEnvC scope cl C X.env) fp) ifs1 t1)
    (he : ∀ (s : Shared) (H : Hp) (C : Addr) (cl : List (Str × Addr)) (fp : List Addr), FE (X.blk s H scope (compEnvC scope cl C X.env) fp) E0 elt e) (hs : ∀ x, foldedSetIterable iter X.env x = pure x := by intro _; rfl) (hs1 : ∀ env x, foldedSetIterable iter1 env x = pure x := by intro _ _; rfl) :
    FS X EE (.Assign [.Name y py] (.ListComp elt [⟨tg, iter, ifs, 0⟩, ⟨tg1, iter1, ifs1, 0⟩] scope pos) spos) (sAsg (eComp2 (own.map (·.2)) fi b t fi1 vs1 b1 t1 e) (gName' i)) :=
  fs_setComp2 (W1 := WU X) hc hN hy hyl hsw hi ok hv hg ht hi1 hg1 ht1 he hs hs1
end
end
end FL
end

section
set_option Elab.async false
set_option linter.all false
set_option maxRecDepth 100000
set_option autoImplicit false
set_option maxHeartbeats 2000000
namespace FL
open PySem PySem.Spec PyProof.Rows L2

/-! ## what the module's names stand for -/
mutual
def dIs (K : PySem.W.Frag) : D → Value → Bool
  | .non, .none => true
  | .bl b, .bool c => b == c
  | .int i, .int j _ => decide (i = j)
  | .str x, .str y _ => decide (x = y) && PyData.strOk x
  | .tup ds, .ref a => (match K.lookup a with
    | some ⟨.type c, none, .seq its _, _⟩ => decide (c = "tuple") && (decide (its.size ≤ sizeLine) && dIss K ds its.toList)
    | _ => false)
  | .lst ds, .ref a => (match K.lookup a with
    | some ⟨.type c, none, .seq its n, sl⟩ => decide (c = "list") && (sl.isEmpty && (decide (its.size ≤ sizeLine) && dIss K ds its.toList))
    | _ => false)
  | _, _ => false
def dIss (K : PySem.W.Frag) : List D → List Value → Bool
  | [], [] => true
  | d :: ds, u :: us => dIs K d u && dIss K ds us
  | _, _ => false
end
theorem band {a b : Bool} (h : (a && b) = true) : a = true ∧ b = true := Bool.and_eq_true_iff.mp h
mutual
theorem dIs_ok (K : PySem.W.Frag) : ∀ (d : D) (u : Value), dIs K d u = true → ∃ v, RelV v u ∧ ∀ G A, Dn K G A v d
  | .non, u, h => by
    cases u <;> simp [dIs] at h
    exact ⟨.non, rfl, fun _ _ => .non⟩
  | .bl b, u, h => by
    cases u <;> simp [dIs] at h
    subst h
    exact ⟨.bl b, rfl, fun _ _ => .bl b⟩
  | .int i, u, h => by
    cases u <;> simp [dIs] at h
    subst h
    exact ⟨.int i, ⟨_, rfl⟩, fun _ _ => .int i⟩
  | .str x, u, h => by
    cases u <;> simp [dIs] at h
    obtain ⟨rfl, h2⟩ := h
    exact ⟨.str x, ⟨_, rfl⟩, fun _ _ => .str x h2⟩
  | .tup ds, u, h => by
    cases u with
    | ref a =>
      simp only [dIs] at h
      split at h
      · rename_i c its n sl e
        obtain ⟨h1, h2⟩ := band h
        obtain ⟨h2, h3⟩ := band h2
        have hc := of_decide_eq_true h1
        subst hc
        obtain ⟨vs, r, t⟩ := dIss_ok K ds _ h3
        exact ⟨.ref a, rfl, fun G A => .tup (.inr ⟨_, its, n, e, rfl, rfl, rfl, of_decide_eq_true h2, r⟩) (t G A)⟩
      · cases h
    | _ => simp [dIs] at h
  | .lst ds, u, h => by
    cases u with
    | ref a =>
      simp only [dIs] at h
      split at h
      · rename_i c its n sl e
        obtain ⟨h1, h2⟩ := band h
        obtain ⟨h2, h4⟩ := band h2
        obtain ⟨h3, h4⟩ := band h4
        have hc := of_decide_eq_true h1
        subst hc
        have hs : sl = #[] := Array.isEmpty_iff.mp h2
        subst hs
        obtain ⟨vs, r, t⟩ := dIss_ok K ds _ h4
        exact ⟨.ref a, rfl, fun G A => .lst (.inr ⟨its, n, e, of_decide_eq_true h3, r⟩) (t G A)⟩
      · cases h
    | _ => simp [dIs] at h
  | .dct _, u, h => by cases u <;> simp [dIs] at h
  | .ref _, u, h => by cases u <;> simp [dIs] at h
theorem dIss_ok (K : PySem.W.Frag) : ∀ (ds : List D) (us : List Value), dIss K ds us = true → ∃ vs, Vals vs us ∧ ∀ G A, DnAll K G A vs ds
  | [], [], _ => ⟨[], .nil, fun _ _ => .nil⟩
  | [], _ :: _, h => by simp [dIss] at h
  | _ :: _, [], h => by simp [dIss] at h
  | d :: ds, u :: us, h => by
    obtain ⟨h1, h2⟩ := band h
    obtain ⟨v, r, t⟩ := dIs_ok K d u h1
    obtain ⟨vs, rs, ts⟩ := dIss_ok K ds us h2
    exact ⟨v :: vs, .cons r rs, fun G A => .cons (t G A) (ts G A)⟩
end
/-- the module's name x stands for the datum d -/
def conIs (K : PySem.W.Frag) (c : Str × D) : Bool := match PySem.W.nsIn K mainGlobals c.1 with
  | some (some u) => dIs K c.2 u
  | _ => false
def Con (K : PySem.W.Frag) (mg : Str → Option Value) (x : Str) (d : D) : Prop := ∃ u v, mg x = some u ∧ RelV v u ∧ ∀ G A, Dn K G A v d
theorem con_ok {K : PySem.W.Frag} {h : Heap} {mg : Str → Option Value} {x : Str} {d : D} (X : K.In h) (G : h.Ns mainGlobals mg) (c : conIs K (x, d) = true) : Con K mg x d := by
  unfold conIs at c
  split at c
  · rename_i u e
    obtain ⟨v, r, t⟩ := dIs_ok K d u c
    exact ⟨u, v, PySem.W.mg_of X G e, r, t⟩
  · cases c
theorem fe_con {X : Cx} {EE : XK} {x : Str} {d : D} {pos : Pos} (c : Con X.K X.mg x d) (hg : Gl X x) (hd : (x == ("__debug__" : Str)) = false := by decide) : FE X EE (.Name x pos) (eC d) := by
  obtain ⟨u, v, h1, h2, h3⟩ := c
  exact fe_c (pe_glob hg h1 h2 hd) h3

/-! ## the law -/
theorem ints_dn {K : PySem.W.Frag} {G : Hp} {A : List Addr} : ∀ ns : List Int, DnAll K G A (ns.map V.int) (ns.map D.int)
  | [] => .nil
  | n :: ns => .cons (.int n) (ints_dn ns)
section
variable {P : Program} {w : World} {K : PySem.W.Frag} {mg mb : Str → Option Value} {k : Nat} {fa a : Addr} {fd : FuncData} {x : Str} {f : List D → M D} {s₁ : Shared} {vs : List Value} {ns : List Int}
/-- what a call of the law must come to -/
def GoodEnd (s₁ : Shared) (r : Result) (s' : Shared) : Prop := r = .ok (.ret (.bool true)) ∧ OldK s₁.heap s'.heap ∧ s'.os = s₁.os ∧ AllBare s'.gens
theorem law_at (H : Hp) (hO : Only H) (hok : HOk P w H s₁.heap) (hdn : LAt K H a (ns.map V.int)) (hA : ∀ b, H b ≠ none → b = a) (hK : H a ≠ none → K.lookup a = none)
    (KX : K.In s₁.heap) (hns : s₁.heap.Ns mainGlobals mg) (hb : s₁.heap.Ns builtinsNs mb) (hbb : ∀ x : Str, x ≠ "__name__" → mb x = bootBuiltins x) (hlim : s₁.heap.NoLimit) (hg : s₁.gens = #[])
    (ha : s₁.heap.get? a = some { cls := .type "list", data := .seq vs.toArray }) (hr : Room k callerA)
    (hF : ∀ base : Heap, K.In base → base.Ns mainGlobals mg → FnD P w K mg base C8.CX0 k fa fd [x] f) (hbind : ∀ (s : Shared) (u : Value), BindsTo s fd ⟨[u], []⟩ [(x, u)])
    (hT : ∃ S', f [.lst (ns.map D.int)] [] = .ok (.bl true) S') : codeAny (model P w) callerA (.call (.ref fa) ⟨[.ref a], []⟩) (GoodEnd s₁) s₁ := by
  have keep : ∀ {b : Addr} {o : Obj}, s₁.heap.get? b = some o → H b = none → (hidT s₁.heap H).get? b = some o := fun q z => hidT_get q z
  have isA : ∀ {b : Addr} {u : HO}, H b = some u → b = a := fun q => hA _ (by rw [q]; exact fun z => nomatch z)
  have hin : K.In (hidT s₁.heap H) := fun b o q => keep (KX b o q) (by
    cases z : H b with
    | none => rfl
    | some u =>
      have eb := isA z
      rw [eb] at q z
      rw [hK (by rw [z]; exact fun y => nomatch y)] at q
      cases q)
  have ns' : ∀ {b : Addr} {m : Str → Option Value}, s₁.heap.Ns b m → (hidT s₁.heap H).Ns b m := by
    rintro b m ⟨o, es, ep, q, dd, rest⟩
    refine ⟨o, es, ep, keep q ?_, dd, rest⟩
    cases z : H b with
    | none => rfl
    | some u =>
      have eb := isA z
      rw [eb, ha] at q
      cases q
      cases dd
  have md : Mod K mg (hidT s₁.heap H) := by
    obtain ⟨mc, l1, l2⟩ := hlim
    exact ⟨hin, ns' hns, ⟨mb, ns' hb, hbb⟩, ⟨mc, ns' l1, l2⟩⟩
  have env : Env0 P w K mg (hidT s₁.heap H) callerA [] s₁ H := ⟨rfl, md, fun b o q => of_hidT q, Nat.le_of_eq (hidT_size _ _), trivial, fun b z => absurd (show b ∈ ([] : List Addr) from z) (by simp), hok, .of_eq hg⟩
  obtain ⟨S', hS⟩ := hT
  have go := hF _ hin (ns' hns) callerA [] s₁ H ⟨[.ref a], []⟩ [.ref a] [.ref a] (fun v _ => v = .bl true) (fun _ _ _ => False) H [] [] [.lst (ns.map D.int)] hr rfl env (hbind s₁ (.ref a)) (.cons rfl .nil) rfl
    ⟨Same.refl _, rfl, .nil, (fun b z => by cases z), (fun b z => by cases z), (fun n b o z => by simp at z)⟩ (.cons (.lst hdn (ints_dn ns)) .nil) (by rw [hS]; exact fun G' A' H' v _ _ n => by cases n; rfl)
  refine codeAny_mono go fun r s' q => ?_
  cases r with
  | error e => exact False.elim q
  | ok fl =>
    cases fl with
    | next => exact False.elim q
    | brk => exact False.elim q
    | cont => exact False.elim q
    | ret u =>
      obtain ⟨v, H', os, bare, un, hok', rv, qv⟩ := q
      cases (show v = .bl true from qv)
      cases (show u = Value.bool true from rv)
      refine ⟨rfl, OldK.of_keep fun b o q => ?_, os, bare⟩
      cases z : H b with
      | none => exact un.keep b o q z (fun y => absurd (show b ∈ ([] : List Addr) from y) (by simp)) (by simp)
      | some u =>
        obtain ⟨ob, xs, z2⟩ := (hO b).resolve_left (by rw [z]; exact fun y => nomatch y)
        obtain ⟨g1, _⟩ := hok b _ z2
        obtain ⟨g2, _⟩ := hok' b _ (un.frzs b ob _ z2)
        rw [q] at g1
        cases g1
        exact g2
theorem law_end (KX : K.In s₁.heap) (hns : s₁.heap.Ns mainGlobals mg) (hb : s₁.heap.Ns builtinsNs mb) (hbb : ∀ x : Str, x ≠ "__name__" → mb x = bootBuiltins x) (hlim : s₁.heap.NoLimit) (hg : s₁.gens = #[])
    (ha : s₁.heap.get? a = some { cls := .type "list", data := .seq vs.toArray }) (hi : IntsAre vs ns) (hl : ns.length ≤ sizeLine) (hr : Room k callerA)
    (hF : ∀ base : Heap, K.In base → base.Ns mainGlobals mg → FnD P w K mg base C8.CX0 k fa fd [x] f) (hbind : ∀ (s : Shared) (u : Value), BindsTo s fd ⟨[u], []⟩ [(x, u)])
    (hT : ∃ S', f [.lst (ns.map D.int)] [] = .ok (.bl true) S') : codeAny (model P w) callerA (.call (.ref fa) ⟨[.ref a], []⟩) (GoodEnd s₁) s₁ := by
  have rv := vals_ints hi
  have hz : vs.length ≤ sizeLine := by rw [hi.length]; exact hl
  cases hk : K.lookup a with
  | some o =>
    have q := KX a o hk
    rw [ha] at q
    cases q
    exact law_at (fun _ => none) (fun _ => .inl rfl) (fun b u z => nomatch (show (none : Option HO) = some u from z)) (.inr ⟨vs.toArray, _, hk, by simpa using hz, by simpa using rv⟩) (fun b z => absurd rfl z) (fun z => absurd rfl z) KX hns hb hbb hlim hg ha hr hF hbind hT
  | none =>
    have one : ∀ {b : Addr} {u : HO}, (if b = a then some (HO.frz { cls := .type "list", data := .seq vs.toArray } (.lst (ns.map V.int))) else none) = some u → b = a ∧ u = .frz { cls := .type "list", data := .seq vs.toArray } (.lst (ns.map V.int)) := fun {b u} z => by
      split at z
      · rename_i hb'; cases z; exact ⟨hb', rfl⟩
      · cases z
    refine law_at (fun b => if b = a then some (.frz { cls := .type "list", data := .seq vs.toArray } (.lst (ns.map V.int))) else none) (fun b => ?_) (fun b u z => ?_) (.inl (.inr ⟨_, if_pos rfl⟩)) (fun b z => ?_) (fun _ => hk) KX hns hb hbb hlim hg ha hr hF hbind hT
    · cases z : (if b = a then some (HO.frz { cls := .type "list", data := .seq vs.toArray } (.lst (ns.map V.int))) else none) with
      | none => exact .inl z
      | some u => rw [(one z).2] at z; exact .inr ⟨_, _, z⟩
    · obtain ⟨e1, e2⟩ := one z
      subst e1 e2
      exact ⟨ha, by rw [List.length_map]; exact hl, vs, _, rv, ha⟩
    · by_cases e : b = a
      · exact e
      · exact absurd (if_neg e) z
end
/-- a law over a head by facts -/
theorem walk_D {l : PySem.W.OpenLaw} {n k : Nat} {q : Program} {loose : List Str} {XP : (Str → Option Value) → Heap → Prop} {YP : World → Heap → Prop} {d : DefRec} {x : Str}
    (hn : l.most = some n) (hn2 : n ≤ sizeLine) (hdf : d.params.defaults = []) (hr : Room k callerA)
    (F : ∀ (w : World) (mg : Str → Option Value) (fa : Addr) (h : Heap), YP w h → h.Ns mainGlobals mg → mg d.name = some (.ref fa) →
      ∃ (K : PySem.W.Frag) (fd : FuncData) (f : List D → M D), K.In h ∧ (∀ (s : Shared) (u : Value), BindsTo s fd ⟨[u], []⟩ [(x, u)]) ∧ (∀ ns : List Int, ns.length ≤ n → ∃ S', f [.lst (ns.map D.int)] [] = .ok (.bl true) S') ∧
        ∀ base : Heap, K.In base → base.Ns mainGlobals mg → FnD l.prog w K mg base C8.CX0 k fa fd [x] f) :
    PySem.W.WalkO q loose XP YP l.row.toRowW d [] (fun f vs => PySem.call f vs) := by
  refine Att.attach_call hn hdf fun w s₀ s₁ mg mb fa o pm cd doc a vs ns G Y ho hd hcd hmg hobj hints hlen hg => ?_
  obtain ⟨K, fd, f, KX, hb, hT, hF⟩ := F w mg fa _ Y G.T.g hmg
  exact law_end KX G.T.g G.T.b G.T.builtins G.T.nolimit hg hobj hints (Nat.le_trans hlen hn2) hr hF hb (hT ns hlen)
end FL
end

section
set_option Elab.async false
set_option linter.all false
set_option maxRecDepth 100000
set_option autoImplicit false
set_option maxHeartbeats 2000000
namespace FL
open PySem PySem.Spec PyProof.Rows L2
section
variable {X : Cx} {EE : XK}
/-- a, b, c = x, y, z -/
def sPar3 (i j l : Nat) (f : FAx) : FSx := fun r => bnd (f r) fun ds => match ds with
  | [d, e, g] => ret (.nx (((r.set i (some d)).set j (some e)).set l (some g)))
  | _ => fun _ => .no
theorem fs_par3 {i j l : Nat} {x y z : Str} {a b c : Expr} {fa : FAx} {px py pz pt pos : Pos} {kt k2 pt2} (hc : X.calm = true) (hN : X.N.Nodup) (hi : X.N[i]? = some x) (hj : X.N[j]? = some y) (hl : X.N[l]? = some z) (hij : i ≠ j) (hil : i ≠ l) (hjl : j ≠ l)
    (hx : X.env.scope.names.lookup x = some .local) (hy : X.env.scope.names.lookup y = some .local) (hz : X.env.scope.names.lookup z = some .local) (ha : FA X EE [a, b, c] fa)
    (hw : swappedStores [.Tuple [.Name x px, .Name y py, .Name z pz] kt pt] (.Tuple [a, b, c] k2 pt2) X.env = pure (some [x, y, z]))
    (hs : swapsWithSole [.Tuple [.Name x px, .Name y py, .Name z pz] kt pt] (.Tuple [a, b, c] k2 pt2) pos.line X.env = pure false := by rfl) :
    FS X EE (.Assign [.Tuple [.Name x px, .Name y py, .Name z pz] kt pt] (.Tuple [a, b, c] k2 pt2) pos) (sPar3 i j l fa) := by
  refine ps_weak (ps_par3 hc hN hi hj hl hij hil hjl hx hy hz ha hw hs) fun T s H ⟨r, G, A, S, hr, hR, q⟩ => ?_
  refine ra_bnd hr hR q (fun _ _ z => z) fun G1 A1 H1 vs ds S1 a1 r1 R1 n1 q1 => ?_
  match ds, n1, q1 with
  | [d, e, g], nn, q1 =>
    cases nn with
    | cons m1 mm =>
      cases mm with
      | cons m2 mm =>
        cases mm with
        | cons m3 mm =>
          cases mm
          exact ⟨_, _, _, rfl, q1 G1 A1 H1 _ a1 R1 (((r1.set m1).set m2).set m3)⟩
  | [], _, q1 => exact q1.elim
  | [_], _, q1 => exact q1.elim
  | [_, _], _, q1 => exact q1.elim
  | _ :: _ :: _ :: _ :: _, _, q1 => exact q1.elim
/-- xs + ys, to be changed -/
def eCatM (fa fb : FEx) : FEx := fun r => bnd (fa r) fun x => bnd (fb r) fun y => fun S => match vw S x, vw S y with
  | .lst xs, .lst ys => if xs.length + ys.length ≤ 1000000 then .ok (.ref S.length) (S ++ [.lst (xs ++ ys)]) else .no
  | _, _ => .no
theorem fe_catM {a b : Expr} {fa fb : FEx} {pos : Pos} (ha : FE X EE a fa) (hb : FE X EE b fb) : FE X EE (.BinOp a .Add b pos) (eCatM fa fb) := by
  refine pe_weak (pe_op op_catR ha hb) fun s H Q ⟨r, G, A, S, hr, hR, q⟩ => ?_
  refine re_bnd hr hR q (fun _ _ z => z) fun G1 A1 H1 x d S1 a1 r1 R1 n1 q1 => ?_
  refine re_bnd r1 R1 q1 (fun _ _ z => z.mono a1) fun G2 A2 H2 y e S2 a2 r2 R2 n2 q2 => ?_
  have v1 := R2.view (n1.mono a2.g a2.p)
  have v2 := R2.view n2
  split at q2
  · rename_i xs ys h1 h2
    split at q2
    · rename_i hl
      rw [h1] at v1
      rw [h2] at v2
      obtain ⟨p, vs, rfl, s1, t1⟩ := v1.lstE R2
      obtain ⟨p', ws, rfl, s2, t2⟩ := v2.lstE R2
      refine ⟨p, p', vs, ws, rfl, rfl, s1, s2, by rw [t1.length, t2.length]; exact small_line hl, fun c hc => ?_⟩
      have R3 : Rel X.K (A2 ++ [c]) (S2 ++ [.lst (xs ++ ys)]) G2 (upd H2 c (.lst (vs ++ ws))) := R2.alloc hc ⟨_, upd_same, (t1.append t2).mono (Same.refl _) (Pre.app _ _)⟩
      refine q2 G2 (A2 ++ [c]) _ _ ((a1.trans a2).trans (R2.exAlloc hc _)) R3 (.ref ?_)
      rw [← R2.len]
      simp
    · exact q2.elim
  · exact q2.elim
end
/-- a call with keywords, no defaults -/
theorem funD_bk {K : PySem.W.Frag} {x qual : Str} {params : Arguments} {body : List Stmt} {scope : Scope} {kws : List (Str × V)} {f : Addr} {fd : FuncData} (F : FunD K x qual params body scope [] kws f fd) {s : Shared} {args : Args} {binds : List (Str × Value)}
    (h : ∀ (kV doc pm : Value) (an : Option Addr) (cdv ct : Value), bindArgs (PySem.W.fnOf x qual params body scope .none kV doc pm an cdv ct) args = pure binds) : BindsTo s fd args binds := by
  obtain ⟨oc, od, dV, kV, doc, pm, an, cdv, ct, osl, rfl, lk, hcd, hD, hK⟩ := F.ex
  rcases hD with ⟨_, rfl⟩ | ⟨e, _⟩
  · exact .of_eq (h kV doc pm an cdv ct)
  · exact absurd rfl e
theorem room_u {k : Nat} {A : Around} (h : Room k A) : A.units + 66 < cLine := by have := h.un; omega
theorem room_65 {k : Nat} {A : Around} (h : Room k A) : A.units + 65 < cLine := by have := h.un; omega
theorem room_64 {k : Nat} {A : Around} (h : Room k A) : A.units + 64 < cLine := by have := h.un; omega
theorem room_1 {k : Nat} {A : Around} (h : Room k A) : A.units + 1 < cLine := by have := h.un; omega
/-- what the top has written -/
structure Top (fr : List Str) (cs : List (Str × D)) (df : List He.DefD) (K : PySem.W.Frag) (mg : Str → Option Value) : Prop where
  fr : ∀ x ∈ fr, mg x = none
  con : ∀ c ∈ cs, Con K mg c.1 c.2
  df : ∀ d ∈ df, ∃ fd, FunD K d.name d.qual d.params d.body d.scope (d.dvs K) (d.kws K) (He.fAd K d.at_) fd ∧ mg d.name = some (.ref (He.fAd K d.at_))
end FL
end

section
set_option Elab.async false
set_option linter.all false
set_option maxRecDepth 100000
set_option autoImplicit false
set_option maxHeartbeats 2000000
namespace SS
open PySem PySem.Spec PyProof.Rows L2 FL
noncomputable def B__law_after (F__law_arrow_of F__law_at F__law_count F__law_put F__law_stamp : List D → M D) : FSx := (sSeq (sAsg (eVar 1) (gTup' 3 (gsCons (gName' 3) (gsCons (gName' 4) (gsCons (gName' 5) gsNil))))) (sSeq (sAsg (eCall 2 0 gAll F__law_arrow_of (aCons (eVar 0) (aCons (eVar 2) aNil)) aNil) (gTup' 3 (gsCons (gName' 6) (gsCons (gName' 7) (gsCons (gName' 8) gsNil))))) (sSeq (sAsg (eCall 3 0 gAll F__law_put (aCons (eVar 3) (aCons (eCall 2 0 gAll F__law_at (aCons (eBin ixD (eVar 0) (eC (.int 2))) (aCons (eBin ixD (eVar 2) (eC (.int 0))) aNil)) aNil) (aCons (eVar 8) aNil))) aNil) (gName' 3)) (sSeq (sIf (asB (eBin eqD (eBin ixD (eVar 7) (eC (.int 0))) (eC (.str "rise")))) (sSeq (sAsg (eMeth ["list", "tuple"] indexD (eBin ixD (eVar 0) (eC (.int 0))) (aCons (eBin ixD (eVar 7) (eC (.int 1))) aNil)) (gName' 9)) (sAsg (eCall 3 0 gAll F__law_put (aCons (eVar 4) (aCons (eVar 9) (aCons (eBin addD (eBin ixD (eVar 4) (eVar 9)) (eBin ixD (eVar 7) (eC (.int 2)))) aNil))) aNil) (gName' 4))) sNext) (sSeq (sIf (asB (eBin inD (eBin ixD (eVar 7) (eC (.int 0))) (eTup (aCons (eC (.str "keep")) (aCons (eC (.str "copy")) aNil))))) (sSeq (sAsg (eIf (asB (eBin eqD (eBin ixD (eVar 7) (eC (.int 0))) (eC (.str "keep")))) (eCall 3 0 gAll F__law_count (aCons (eVar 0) (aCons (eVar 1) (aCons (eBin ixD (eVar 7) (eC (.int 1))) aNil))) aNil) (eCall 3 0 gAll F__law_stamp (aCons (eVar 0) (aCons (eVar 1) (aCons (eBin ixD (eVar 7) (eC (.int 2))) aNil))) aNil)) (gName' 10)) (sAsg (eCall 3 0 gAll F__law_put (aCons (eVar 5) (aCons (eCall 2 0 gAll F__law_at (aCons (eBin ixD (eVar 0) (eC (.int 1))) (aCons (eBin ixD (eVar 7) (eC (.int 1))) aNil)) aNil) (aCons (eVar 10) aNil))) aNil) (gName' 5))) sNext) (sRet (eTup (aCons (eVar 3) (aCons (eVar 4) (aCons (eVar 5) aNil))))))))))
noncomputable def B__law_arrow : FSx := (sSeq (sPar 2 3 (aCons (eMeth ["str"] splitD (eVar 0) (aCons (eC (.str " ")) aNil)) (aCons (eNewL aNil) aNil))) (sSeq (sFor (iSeqD (eSl (eVar 2) (oSome (eC (.int 1))) (oSome (eUn negD (eC (.int 1)))))) (gName' 4) (sExpr (eMut ["list"] appendD (eVar 3) (aCons (eIf (asT (eMeth0 ["str"] isdigitD (eVar 4))) (eCallP intD (aCons (eVar 4) aNil)) (eMeth ["dict"] get2D (eVar 1) (aCons (eVar 4) (aCons (eVar 4) aNil)))) aNil)))) (sRet (eTup (aCons (eCallP intD (aCons (eBin ixD (eVar 2) (eC (.int 0))) aNil)) (aCons (eCallP tupleD (aCons (eVar 3) aNil)) (aCons (eCallP intD (aCons (eBin ixD (eVar 2) (eUn negD (eC (.int 1)))) aNil)) aNil)))))))
noncomputable def B__law_arrow_of (F__law_at : List D → M D) : FSx := (sRet (eBin ixD (eBin ixD (eBin ixD (eBin ixD (eVar 0) (eC (.int 2))) (eCall 2 0 gAll F__law_at (aCons (eBin ixD (eVar 0) (eC (.int 2))) (aCons (eBin ixD (eVar 1) (eC (.int 0))) aNil)) aNil)) (eC (.int 1))) (eBin ixD (eVar 1) (eC (.int 1)))))
noncomputable def B__law_at : FSx := (sRet (eMeth ["list", "tuple"] indexD (eComp [2] (iSeqD (eVar 0)) (gName' 2) tTrue (eBin ixD (eVar 2) (eC (.int 0)))) (aCons (eVar 1) aNil)))
noncomputable def B__law_begun : FSx := (sRet (eTup (aCons (eBin mulD (eTup (aCons (eC (.int 0)) aNil)) (eCallP lenD (aCons (eBin ixD (eVar 0) (eC (.int 2))) aNil))) (aCons (eBin mulD (eTup (aCons (eC (.int 0)) aNil)) (eCallP lenD (aCons (eBin ixD (eVar 0) (eC (.int 0))) aNil))) (aCons (eBin mulD (eTup (aCons (eC (.int 0)) aNil)) (eCallP lenD (aCons (eBin ixD (eVar 0) (eC (.int 1))) aNil))) aNil)))))
noncomputable def B__law_count (F__law_at : List D → M D) : FSx := (sRet (eBin ixD (eBin ixD (eVar 1) (eC (.int 1))) (eMeth ["list", "tuple"] indexD (eBin ixD (eVar 0) (eC (.int 0))) (aCons (eBin ixD (eBin ixD (eBin ixD (eVar 0) (eC (.int 1))) (eCall 2 0 gAll F__law_at (aCons (eBin ixD (eVar 0) (eC (.int 1))) (aCons (eVar 2) aNil)) aNil)) (eC (.int 1))) aNil))))
noncomputable def B__law_deed (F__law_draw F__law_pairs F__law_pick : List D → M D) : FSx := (sSeq (sPar 2 3 (aCons (eCall 2 0 gAll F__law_draw (aCons (eVar 0) (aCons (eC (.int 14)) aNil)) aNil) (aCons (eCall 1 0 gAll F__law_pairs (aCons (eVar 1) aNil) aNil) aNil))) (sSeq (sIf (tAnd2 (asB (eBin ltD (eVar 2) (eC (.int 4)))) (asB (eBin neD (eBin ixD (eVar 1) (eC (.int 0))) (eTup aNil)))) (sRet (eTup (aCons (eBin ixD (eLst (aCons (eC (.str "rise")) (aCons (eC (.str "rise")) (aCons (eC (.str "rise")) (aCons (eC (.str "spare")) aNil))))) (eVar 2)) (aCons (eCall 2 0 gAll F__law_pick (aCons (eVar 0) (aCons (eBin ixD (eVar 1) (eC (.int 0))) aNil)) aNil) (aCons (eBin addD (eC (.int 1)) (eCall 2 0 gAll F__law_draw (aCons (eVar 0) (aCons (eC (.int 4)) aNil)) aNil)) aNil))))) sNext) (sSeq (sIf (tAnd2 (asB (eChain leD ltD (eC (.int 4)) (eVar 2) (eC (.int 9)))) (asB (eBin neD (eBin ixD (eVar 1) (eC (.int 1))) (eTup aNil)))) (sRet (eTup (aCons (eBin ixD (eLst (aCons (eC (.str "keep")) (aCons (eC (.str "keep")) (aCons (eC (.str "same")) (aCons (eC (.str "other")) (aCons (eC (.str "other")) aNil)))))) (eBin subD (eVar 2) (eC (.int 4)))) (aCons (eBin ixD (eCall 2 0 gAll F__law_pick (aCons (eVar 0) (aCons (eBin ixD (eVar 1) (eC (.int 1))) aNil)) aNil) (eC (.int 0))) aNil)))) sNext) (sSeq (sIf (tAnd2 (asB (eBin ltD (eVar 2) (eC (.int 13)))) (asB (eBin neD (eVar 3) (eLst aNil)))) (sRet (eBin addD (eTup (aCons (eCall 2 0 gAll F__law_pick (aCons (eVar 0) (aCons (eLst (aCons (eC (.str "copy")) (aCons (eC (.str "copy")) (aCons (eC (.str "agree")) (aCons (eC (.str "differ")) (aCons (eC (.str "newer")) (aCons (eC (.str "elder")) aNil))))))) aNil)) aNil) aNil)) (eCall 2 0 gAll F__law_pick (aCons (eVar 0) (aCons (eVar 3) aNil)) aNil))) sNext) (sRet (eTup (aCons (eC (.str "do")) (aCons (eCall 2 0 gAll F__law_pick (aCons (eVar 0) (aCons (eLst (aCons (eC (.str "x")) (aCons (eC (.str "go")) (aCons (eC (.str "abcdefgh")) aNil)))) aNil)) aNil) aNil))))))))
noncomputable def B__law_draw : FSx := (sSeq (sAsg (eBin addD (eBin ixD (eVar 0) (eC (.int 3))) (eC (.int 1))) (gSub' (eVar 0) (eC (.int 3)))) (sSeq (sIf (asB (eBin gtD (eBin ixD (eVar 0) (eC (.int 2))) (eC (.int 0)))) (sSeq (sAsg (eBin modD (eCallP intD (aCons (eBin ixD (eVar 0) (eC (.int 2))) aNil)) (eVar 1)) (gName' 2)) (sSeq (sAsg (eBin fdivD (eBin ixD (eVar 0) (eC (.int 2))) (eVar 1)) (gSub' (eVar 0) (eC (.int 2)))) (sRet (eVar 2)))) sNext) (sSeq (sAsg (eBin ixD (eVar 0) (eC (.int 1))) (gName' 3)) (sSeq (sAsg (eBin addD (eVar 3) (eC (.int 1))) (gSub' (eVar 0) (eC (.int 1)))) (sSeq (sAsg (eIf (asB (eBin neD (eBin ixD (eVar 0) (eC (.int 0))) (eLst aNil))) (eBin ixD (eBin ixD (eVar 0) (eC (.int 0))) (eBin modD (eCallP intD (aCons (eVar 3) aNil)) (eCallP lenD (aCons (eBin ixD (eVar 0) (eC (.int 0))) aNil)))) (eC (.int 67))) (gName' 4)) (sSeq (sIf (tAnd2 (asB (eBin geD (eVar 4) (eBin powD (eC (.int 10)) (eC (.int 18))))) (asB (eBin ltD (eVar 3) (eCallP lenD (aCons (eBin ixD (eVar 0) (eC (.int 0))) aNil))))) (sSeq (sAsg (eBin fdivD (eVar 4) (eVar 1)) (gSub' (eVar 0) (eC (.int 2)))) (sRet (eBin modD (eCallP intD (aCons (eVar 4) aNil)) (eVar 1)))) sNext) (sSeq (sAsg (eBin modD (eCallP intD (aCons (eBin powD (eBin addD (eBin addD (eBin modD (eCallP intD (aCons (eVar 4) aNil)) (eC (.int 1999999943))) (eBin mulD (eC (.int 48131)) (eBin ixD (eVar 0) (eC (.int 3))))) (eC (.int 223))) (eC (.int 3))) aNil)) (eC (.int 2147483423))) (gName' 5)) (sSeq (sAsg (eBin modD (eCallP intD (aCons (eBin powD (eBin addD (eBin addD (eVar 5) (eBin mulD (eBin mulD (eC (.int 8147)) (eBin ixD (eVar 0) (eC (.int 3)))) (eBin ixD (eVar 0) (eC (.int 3))))) (eC (.int 73))) (eC (.int 5))) aNil)) (eC (.int 2147483477))) (gName' 5)) (sRet (eBin modD (eCallP intD (aCons (eBin fdivD (eVar 5) (eC (.int 64))) aNil)) (eVar 1)))))))))))
noncomputable def B__law_events : FSx := (sSeq (sAsg (eLst aNil) (gName' 1)) (sSeq (sFor (iSeqD (eBin ixD (eVar 0) (eC (.int 2)))) (gTup' 2 (gsCons (gName' 2) (gsCons (gName' 3) gsNil))) (sAsg (eBin addD (eVar 1) (eComp [4] (iRange rangeD1 (aCons (eCallP lenD (aCons (eVar 3) aNil)) aNil)) (gName' 4) tTrue (eTup (aCons (eVar 2) (aCons (eVar 4) aNil))))) (gName' 1))) (sRet (eVar 1))))
noncomputable def B__law_free (F__law_draw F__law_grown F__law_pick : List D → M D) : FSx := (sSeq (sAsg (eComp [8] (iSeqD (eSl (eC (.str "cd")) oNone (oSome (eBin addD (eC (.int 1)) (eCall 2 0 gAll F__law_draw (aCons (eVar 0) (aCons (eC (.int 2)) aNil)) aNil))))) (gName' 8) tTrue (eBin ixD (eVar 1) (eVar 8))) (gName' 2)) (sSeq (sAsg (eComp [8] (iSeqD (eSl (eC (.str "stuv")) oNone (oSome (eCall 2 0 gAll F__law_draw (aCons (eVar 0) (aCons (eC (.int 5)) aNil)) aNil)))) (gName' 8) tTrue (eTup (aCons (eBin ixD (eVar 1) (eVar 8)) (aCons (eCall 2 0 gAll F__law_pick (aCons (eVar 0) (aCons (eVar 2) aNil)) aNil) aNil)))) (gName' 3)) (sSeq (sAsg (eComp [8] (iSeqD (eSl (eC (.str "pqr")) oNone (oSome (eBin addD (eC (.int 1)) (eCall 2 0 gAll F__law_draw (aCons (eVar 0) (aCons (eC (.int 3)) aNil)) aNil))))) (gName' 8) tTrue (eTup (aCons (eBin ixD (eVar 1) (eVar 8)) (aCons (eTup aNil) aNil)))) (gName' 4)) (sSeq (sPar 5 6 (aCons (eTup (aCons (eCallP tupleD (aCons (eCallP sortedD (aCons (eVar 2) aNil)) aNil)) (aCons (eCallP tupleD (aCons (eCallP sortedD (aCons (eVar 3) aNil)) aNil)) (aCons (eCallP tupleD (aCons (eCallP sortedD (aCons (eVar 4) aNil)) aNil)) aNil)))) (aCons (eBin addD (eC (.int 1)) (eCall 2 0 gAll F__law_draw (aCons (eVar 0) (aCons (eC (.int 5)) aNil)) aNil)) aNil))) (sSeq (sFor (iRange rangeD1 (aCons (eBin addD (eC (.int 2)) (eCall 2 0 gAll F__law_draw (aCons (eVar 0) (aCons (eC (.int 14)) aNil)) aNil)) aNil)) (gName' 7) (sAsg (eCall 3 0 gAll F__law_grown (aCons (eVar 0) (aCons (eVar 5) (aCons (eVar 6) aNil))) aNil) (gName' 5))) (sRet (eVar 5)))))))
noncomputable def B__law_gap (F__law_count F__law_stamp : List D → M D) : FSx := (sSeq (sIf (asB (eBin inD (eBin ixD (eVar 2) (eC (.int 0))) (eTup (aCons (eC (.str "same")) (aCons (eC (.str "other")) aNil))))) (sRet (eBin subD (eCall 3 0 gAll F__law_count (aCons (eVar 0) (aCons (eVar 1) (aCons (eBin ixD (eVar 2) (eC (.int 1))) aNil))) aNil) (eCall 3 0 gAll F__law_stamp (aCons (eVar 0) (aCons (eVar 1) (aCons (eBin ixD (eVar 2) (eC (.int 1))) aNil))) aNil))) sNext) (sRet (eBin subD (eCall 3 0 gAll F__law_stamp (aCons (eVar 0) (aCons (eVar 1) (aCons (eBin ixD (eVar 2) (eC (.int 1))) aNil))) aNil) (eCall 3 0 gAll F__law_stamp (aCons (eVar 0) (aCons (eVar 1) (aCons (eBin ixD (eVar 2) (eC (.int 2))) aNil))) aNil))))
noncomputable def B__law_grown (F__law_deed F__law_draw F__law_plain : List D → M D) : FSx := (sSeq (sIf (asB (eBin eqD (eBin ixD (eVar 1) (eC (.int 2))) (eTup aNil))) (sRet (eVar 1)) sNext) (sSeq (sAsg (eCall 2 0 gAll F__law_draw (aCons (eVar 0) (aCons (eCallP lenD (aCons (eBin ixD (eVar 1) (eC (.int 2))) aNil)) aNil)) aNil) (gName' 3)) (sSeq (sAsg (eBin ixD (eBin ixD (eVar 1) (eC (.int 2))) (eVar 3)) (gTup' 2 (gsCons (gName' 4) (gsCons (gName' 5) gsNil)))) (sSeq (sAsg (eTup (aCons (eCall 2 0 gAll F__law_draw (aCons (eVar 0) (aCons (eVar 2) aNil)) aNil) (aCons (eCall 2 0 gAll F__law_deed (aCons (eVar 0) (aCons (eVar 1) aNil)) aNil) (aCons (eCall 2 0 gAll F__law_draw (aCons (eVar 0) (aCons (eVar 2) aNil)) aNil) aNil)))) (gName' 6)) (sSeq (sIf (tOr2 (asB (eBin gtD (eCallP lenD (aCons (eVar 5) aNil)) (eC (.int 5)))) (tOr2 (asB (eBin gtD (eMeth ["str"] countD (eCallP reprD (aCons (eVar 1) aNil)) (aCons (eC (.str "spare")) aNil)) (eC (.int 5)))) (asB (eBin inD (eCall 1 0 gAll F__law_plain (aCons (eVar 6) aNil) aNil) (eComp [7] (iSeqD (eVar 5)) (gName' 7) tTrue (eCall 1 0 gAll F__law_plain (aCons (eVar 7) aNil) aNil)))))) (sRet (eVar 1)) sNext) (sRet (eBin addD (eSl (eVar 1) oNone (oSome (eC (.int 2)))) (eTup (aCons (eBin addD (eBin addD (eSl (eBin ixD (eVar 1) (eC (.int 2))) oNone (oSome (eVar 3))) (eTup (aCons (eTup (aCons (eVar 4) (aCons (eBin addD (eVar 5) (eTup (aCons (eVar 6) aNil))) aNil))) aNil))) (eSl (eBin ixD (eVar 1) (eC (.int 2))) (oSome (eBin addD (eVar 3) (eC (.int 1)))) oNone)) aNil)))))))))
noncomputable def B__law_is_look : FSx := (sRet (eBin inD (eBin ixD (eVar 0) (eC (.int 0))) (eTup (aCons (eC (.str "same")) (aCons (eC (.str "other")) (aCons (eC (.str "agree")) (aCons (eC (.str "differ")) (aCons (eC (.str "newer")) (aCons (eC (.str "elder")) aNil)))))))))
noncomputable def B__law_is_true (F__law_gap F__law_is_look : List D → M D) : FSx := (sSeq (sIf (tNot1 (asT (eCall 1 0 gAll F__law_is_look (aCons (eVar 2) aNil) aNil))) (sRet (eC (.bl true))) sNext) (sSeq (sAsg (eCall 3 0 gAll F__law_gap (aCons (eVar 0) (aCons (eVar 1) (aCons (eVar 2) aNil))) aNil) (gName' 3)) (sSeq (sIf (asB (eBin inD (eBin ixD (eVar 2) (eC (.int 0))) (eTup (aCons (eC (.str "newer")) (aCons (eC (.str "elder")) aNil))))) (sRet (eBin eqD (eBin gtD (eVar 3) (eC (.int 0))) (eBin eqD (eBin ixD (eVar 2) (eC (.int 0))) (eC (.str "newer"))))) sNext) (sRet (eBin eqD (eBin eqD (eVar 3) (eC (.int 0))) (eBin inD (eBin ixD (eVar 2) (eC (.int 0))) (eTup (aCons (eC (.str "same")) (aCons (eC (.str "agree")) aNil)))))))))
noncomputable def B__law_names (F__law_draw : List D → M D) : FSx := (sSeq (sPar3 3 4 5 (aCons (eCall 2 0 gAll F__law_draw (aCons (eVar 0) (aCons (eCallP lenD (aCons (eVar 1) aNil)) aNil)) aNil) (aCons (eBin addD (eC (.int 1)) (eCall 2 0 gAll F__law_draw (aCons (eVar 0) (aCons (eBin subD (eCallP lenD (aCons (eVar 1) aNil)) (eC (.int 1))) aNil)) aNil)) (aCons eNewD aNil)))) (sSeq (sFor (iRange rangeD1 (aCons (eCallP lenD (aCons (eVar 2) aNil)) aNil)) (gName' 6) (sAsg (eBin ixD (eVar 1) (eBin modD (eCallP intD (aCons (eBin addD (eVar 3) (eBin mulD (eVar 6) (eVar 4))) aNil)) (eCallP lenD (aCons (eVar 1) aNil)))) (gSub' (eVar 5) (eBin ixD (eVar 2) (eVar 6))))) (sRet (eVar 5))))
noncomputable def B__law_open (F__law_arrow_of F__law_events F__law_is_true F__law_stands : List D → M D) : FSx := (sSeq (sAsg (eComp [3] (iSeqD (eCall 1 0 gAll F__law_events (aCons (eVar 0) aNil) aNil)) (gName' 3) (asT (eCall 3 0 gAll F__law_stands (aCons (eVar 0) (aCons (eVar 1) (aCons (eVar 3) aNil))) aNil)) (eVar 3)) (gName' 2)) (sRet (eComp [3] (iSeqD (eVar 2)) (gName' 3) (asT (eCall 3 0 gAll F__law_is_true (aCons (eVar 0) (aCons (eVar 1) (aCons (eBin ixD (eCall 2 0 gAll F__law_arrow_of (aCons (eVar 0) (aCons (eVar 3) aNil)) aNil) (eC (.int 1))) aNil))) aNil)) (eVar 3))))
noncomputable def B__law_pairs : FSx := (sSeq (sAsg (eLst aNil) (gName' 1)) (sSeq (sFor (iSeqD (eBin ixD (eVar 0) (eC (.int 1)))) (gTup' 2 (gsCons (gName' 2) (gsCons (gName' 3) gsNil))) (sAsg (eBin addD (eVar 1) (eComp [4] (iSeqD (eBin ixD (eVar 0) (eC (.int 1)))) (gName' 4) (tAnd2 (asB (eBin neD (eBin ixD (eVar 4) (eC (.int 0))) (eVar 2))) (asB (eBin eqD (eBin ixD (eVar 4) (eC (.int 1))) (eVar 3)))) (eTup (aCons (eVar 2) (aCons (eBin ixD (eVar 4) (eC (.int 0))) aNil))))) (gName' 1))) (sRet (eVar 1))))
noncomputable def B__law_pick (F__law_draw : List D → M D) : FSx := (sRet (eBin ixD (eVar 1) (eCall 2 0 gAll F__law_draw (aCons (eVar 0) (aCons (eCallP lenD (aCons (eVar 1) aNil)) aNil)) aNil)))
noncomputable def B__law_plain : FSx := (sRet (eIf (asB (eBin eqD (eBin ixD (eBin ixD (eVar 0) (eC (.int 1))) (eC (.int 0))) (eC (.str "spare")))) (eTup (aCons (eBin ixD (eVar 0) (eC (.int 0))) (aCons (eBin addD (eTup (aCons (eC (.str "rise")) aNil)) (eSl (eBin ixD (eVar 0) (eC (.int 1))) (oSome (eC (.int 1))) oNone)) (aCons (eBin ixD (eVar 0) (eC (.int 2))) aNil)))) (eVar 0)))
noncomputable def B__law_program (F__law_draw F__law_free F__law_grown F__law_pick F__law_scenes F__law_table F__law_written : List D → M D) : FSx := (sSeq (sPar 1 2 (aCons (eCall 1 0 gAll F__law_table (aCons (eVar 0) aNil) aNil) (aCons (eCall 2 0 gAll F__law_draw (aCons (eVar 0) (aCons (eC (.int 6)) aNil)) aNil) aNil))) (sSeq (sIf (asB (eBin eqD (eVar 2) (eC (.int 0)))) (sRet (eCall 2 0 gAll F__law_free (aCons (eVar 0) (aCons (eVar 1) aNil)) aNil)) sNext) (sSeq (sAsg (eCall 2 0 gAll F__law_written (aCons (eCall 2 0 gAll F__law_pick (aCons (eVar 0) (aCons (eCall 0 0 gAll F__law_scenes aNil aNil) aNil)) aNil) (aCons (eVar 1) aNil)) aNil) (gName' 3)) (sRet (eIf (asB (eBin ltD (eVar 2) (eC (.int 3)))) (eCall 3 0 gAll F__law_grown (aCons (eVar 0) (aCons (eVar 3) (aCons (eC (.int 4)) aNil))) aNil) (eVar 3))))))
noncomputable def B__law_put : FSx := (sRet (eBin addD (eBin addD (eSl (eVar 0) oNone (oSome (eVar 1))) (eTup (aCons (eVar 2) aNil))) (eSl (eVar 0) (oSome (eBin addD (eVar 1) (eC (.int 1)))) oNone)))
noncomputable def B__law_road (F__law_after F__law_begun F__law_open F__law_pick : List D → M D) : FSx := (sSeq (sPar 3 4 (aCons (eCall 1 0 gAll F__law_begun (aCons (eVar 1) aNil) aNil) (aCons (eTup aNil) aNil))) (sSeq (sFor (iRange rangeD1 (aCons (eVar 2) aNil)) (gName' 5) (sSeq (sAsg (eCall 2 0 gAll F__law_open (aCons (eVar 1) (aCons (eVar 3) aNil)) aNil) (gName' 6)) (sSeq (sIf (asB (eBin eqD (eVar 6) (eLst aNil))) (sRet (eVar 4)) sNext) (sSeq (sAsg (eBin addD (eVar 4) (eTup (aCons (eCall 2 0 gAll F__law_pick (aCons (eVar 0) (aCons (eVar 6) aNil)) aNil) aNil))) (gName' 4)) (sAsg (eCall 3 0 gAll F__law_after (aCons (eVar 1) (aCons (eVar 3) (aCons (eBin ixD (eVar 4) (eUn negD (eC (.int 1)))) aNil))) aNil) (gName' 3)))))) (sRet (eVar 4))))
noncomputable def B__law_scenes : FSx := (sSeq (sAsg (eC (.str ",2 same s 0,2 other s 0")) (gName' 0)) (sSeq (sAsg (eNewL (aCons (eC (.str "c;s:c;0 keep s 1,1 rise c 1 2,2 rise c 2 2,2 other s 0")) (aCons (eBin addD (eC (.str "c;s:c;0 keep s 1,1 rise c 4 2")) (eVar 0)) aNil))) (gName' 1)) (sSeq (sAsg (eCatM (eVar 1) (eLst (aCons (eC (.str "c;s:c;0 keep s 1,1 same s 0,1 other s 0;0 rise c 1 0")) (aCons (eBin addD (eC (.str "c;s:c;0 rise c 2 2")) (eVar 0)) aNil)))) (gName' 1)) (sSeq (sExpr (eMut ["list"] appendD (eVar 1) (aCons (eBin addD (eC (.str "c;s:c;0 keep s 1,1 rise c 3 2,2 rise c 3 3,3 rise c 3 2")) (eVar 0)) aNil))) (sSeq (sExpr (eMut ["list"] appendD (eVar 1) (aCons (eC (.str "c;s:c t:c u:c;0 keep s 1,1 copy t s 2,2 copy u t 3,3 rise c 2 4,4 other u 0,4 same t 0")) aNil))) (sSeq (sExpr (eMut ["list"] appendD (eVar 1) (aCons (eBin addD (eC (.str "c;s:c t:c;0 keep s 1,1 rise c 1 2,2 keep s 1,1 keep t 1")) (eVar 0)) aNil))) (sSeq (sExpr (eMut ["list"] appendD (eVar 1) (aCons (eC (.str "c;s:c t:c;0 keep s 1,1 rise c 3 2,2 keep t 3,3 rise c 1 3,3 agree s t 0,3 differ t s 0")) aNil))) (sSeq (sExpr (eMut ["list"] appendD (eVar 1) (aCons (eC (.str "c;s:c t:c;0 rise c 3 1,1 keep t 2,2 newer s t 0,2 elder s t 0,2 rise c 1 3,3 keep s 2")) aNil))) (sSeq (sExpr (eMut ["list"] appendD (eVar 1) (aCons (eC (.str "c;s:c;0 same s 1,1 rise c 2 0,0 other s 2,2 keep s 0")) aNil))) (sSeq (sExpr (eMut ["list"] appendD (eVar 1) (aCons (eC (.str "c;s:c;0 do x 0,3 same s 0,0 rise c 1 0")) aNil))) (sSeq (sExpr (eMut ["list"] appendD (eVar 1) (aCons (eC (.str "c;s:c;0 keep s 1,1 rise c 1 2,2 spare c 1 2,2 rise c 2 2,2 other s 0")) aNil))) (sSeq (sAsg (eC (.str "c d;s:c t:d;0 keep s 1,1 keep t 2,2 rise c 2 3,2 rise d 3 3")) (gName' 2)) (sSeq (sExpr (eMut ["list"] appendD (eVar 1) (aCons (eBin addD (eVar 2) (eC (.str ",3 other s 0,3 other t 0;0 rise c 1 1,1 do x 0"))) aNil))) (sSeq (sAsg (eC (.str "c;s:c t:c u:c;0 rise c 1 1,1 keep s 2,2 rise c 2 3,3 keep t 4,4 copy u t 0,4 newer u s 4")) (gName' 3)) (sSeq (sAsg (eCatM (eVar 1) (eLst (aCons (eVar 3) (aCons (eC (.str "c;s:c;;0 rise c 1 0;0 same s 1,1 keep s 0,0 other s 1")) aNil)))) (gName' 1)) (sSeq (sAsg (eC (.str "c d;s:d t:c u:d v:c;0 keep t 0,0 copy v t 1,1 rise d 4 0")) (gName' 4)) (sSeq (sExpr (eMut ["list"] appendD (eVar 1) (aCons (eBin addD (eVar 4) (eC (.str ";0 copy s u 0,0 agree v t 1,1 elder u s 0"))) aNil))) (sRet (eBin addD (eVar 1) (eLst (aCons (eC (.str "c;s:c;")) (aCons (eC (.str ";;0 do x 1,1 do x 0")) (aCons (eC (.str ";")) aNil)))))))))))))))))))))))
noncomputable def B__law_stamp (F__law_at : List D → M D) : FSx := (sRet (eBin ixD (eBin ixD (eVar 1) (eC (.int 2))) (eCall 2 0 gAll F__law_at (aCons (eBin ixD (eVar 0) (eC (.int 1))) (aCons (eVar 2) aNil)) aNil)))
noncomputable def B__law_stands (F__law_arrow_of F__law_at : List D → M D) : FSx := (sRet (eBin eqD (eBin ixD (eBin ixD (eVar 1) (eC (.int 0))) (eCall 2 0 gAll F__law_at (aCons (eBin ixD (eVar 0) (eC (.int 2))) (aCons (eBin ixD (eVar 2) (eC (.int 0))) aNil)) aNil)) (eBin ixD (eCall 2 0 gAll F__law_arrow_of (aCons (eVar 0) (aCons (eVar 2) aNil)) aNil) (eC (.int 0)))))
noncomputable def B__law_table (F__law_names : List D → M D) : FSx := (sSeq (sAsg (eCall 3 0 gAll F__law_names (aCons (eVar 0) (aCons (eLst (aCons (eC (.str "c")) (aCons (eC (.str "a")) (aCons (eC (.str "count")) (aCons (eC (.str "x")) (aCons (eC (.str "total")) (aCons (eC (.str "cc")) (aCons (eC (.str "zz")) aNil)))))))) (aCons (eC (.str "cd")) aNil))) aNil) (gName' 1)) (sSeq (sExpr (eMut ["dict"] updateD (eVar 1) (aCons (eCall 3 0 gAll F__law_names (aCons (eVar 0) (aCons (eLst (aCons (eC (.str "s")) (aCons (eC (.str "t")) (aCons (eC (.str "a")) (aCons (eC (.str "mine")) (aCons (eC (.str "old")) (aCons (eC (.str "x")) (aCons (eC (.str "abcdefgh")) aNil)))))))) (aCons (eC (.str "stuv")) aNil))) aNil) aNil))) (sSeq (sExpr (eMut ["dict"] updateD (eVar 1) (aCons (eCall 3 0 gAll F__law_names (aCons (eVar 0) (aCons (eLst (aCons (eC (.str "ann")) (aCons (eC (.str "bob")) (aCons (eC (.str "a")) (aCons (eC (.str "x")) (aCons (eC (.str "zoe")) (aCons (eC (.str "writer")) (aCons (eC (.str "b")) aNil)))))))) (aCons (eC (.str "pqr")) aNil))) aNil) aNil))) (sRet (eVar 1)))))
noncomputable def B__law_tape : FSx := (sRet (eNewL (aCons (eSl (eVar 0) oNone (oSome (eC (.int 63)))) (aCons (eC (.int 0)) (aCons (eC (.int 0)) (aCons (eC (.int 0)) aNil))))))
noncomputable def B__law_written (F__law_arrow : List D → M D) : FSx := (sSeq (sAsg (eMeth ["str"] splitD (eVar 0) (aCons (eC (.str ";")) aNil)) (gName' 2)) (sSeq (sAsg (eComp [8] (iSeqD (eMeth ["str"] splitD (eBin ixD (eVar 2) (eC (.int 1))) (aCons (eC (.str " ")) aNil))) (gName' 8) (asB (eBin neD (eVar 8) (eC (.str "")))) (eTup (aCons (eBin ixD (eVar 1) (eBin ixD (eVar 8) (eC (.int 0)))) (aCons (eBin ixD (eVar 1) (eBin ixD (eVar 8) (eC (.int 2)))) aNil)))) (gName' 3)) (sSeq (sPar 4 5 (aCons (eComp [9] (iSeqD (eMeth ["str"] splitD (eBin ixD (eVar 2) (eC (.int 0))) (aCons (eC (.str " ")) aNil))) (gName' 9) (asB (eBin neD (eVar 9) (eC (.str "")))) (eBin ixD (eVar 1) (eVar 9))) (aCons (eNewL aNil) aNil))) (sSeq (sFor (iRange rangeD2 (aCons (eC (.int 2)) (aCons (eCallP lenD (aCons (eVar 2) aNil)) aNil))) (gName' 6) (sSeq (sAsg (eComp [10] (iSeqD (eMeth ["str"] splitD (eBin ixD (eVar 2) (eVar 6)) (aCons (eC (.str ",")) aNil))) (gName' 10) (asB (eBin neD (eVar 10) (eC (.str "")))) (eCall 2 0 gAll F__law_arrow (aCons (eVar 10) (aCons (eVar 1) aNil)) aNil)) (gName' 7)) (sExpr (eMut ["list"] appendD (eVar 5) (aCons (eTup (aCons (eBin ixD (eVar 1) (eBin ixD (eC (.str "pqr")) (eBin subD (eVar 6) (eC (.int 2))))) (aCons (eCallP tupleD (aCons (eVar 7) aNil)) aNil))) aNil))))) (sRet (eTup (aCons (eCallP tupleD (aCons (eCallP sortedD (aCons (eVar 4) aNil)) aNil)) (aCons (eCallP tupleD (aCons (eCallP sortedD (aCons (eVar 3) aNil)) aNil)) (aCons (eCallP tupleD (aCons (eCallP sortedD (aCons (eVar 5) aNil)) aNil)) aNil)))))))))
noncomputable def B_all_events : FSx := (sRet (eComp2 [1, 2, 3] (iSeqD (eBin ixD (eVar 0) (eC (.int 2)))) (gTup' 2 (gsCons (gName' 1) (gsCons (gName' 2) gsNil))) tTrue (iRange rangeD1 (aCons (eCallP lenD (aCons (eVar 2) aNil)) aNil)) [3] (gName' 3) tTrue (eTup (aCons (eVar 1) (aCons (eVar 3) aNil)))))
noncomputable def B_arrow_at (F_party_spot : List D → M D) : FSx := (sRet (eBin ixD (eBin ixD (eBin ixD (eBin ixD (eVar 0) (eC (.int 2))) (eCall 2 0 gAll F_party_spot (aCons (eVar 0) (aCons (eBin ixD (eVar 1) (eC (.int 0))) aNil)) aNil)) (eC (.int 1))) (eBin ixD (eVar 1) (eC (.int 1)))))
noncomputable def B_can_come (F_arrow_at F_is_true F_look_gap F_stands_at : List D → M D) (C_LOOK_WORDS : D) : FSx := (sSeq (sAsg (eBin ixD (eCall 2 0 gAll F_arrow_at (aCons (eVar 0) (aCons (eVar 2) aNil)) aNil) (eC (.int 1))) (gName' 3)) (sSeq (sIf (tNot1 (asT (eCall 3 0 gAll F_stands_at (aCons (eVar 0) (aCons (eVar 1) (aCons (eVar 2) aNil))) aNil))) (sRet (eC (.bl false))) sNext) (sRet (eOr2 (eBin notInD (eBin ixD (eVar 3) (eC (.int 0))) (eC C_LOOK_WORDS)) (eCall 2 0 gAll F_is_true (aCons (eBin ixD (eVar 3) (eC (.int 0))) (aCons (eCall 3 0 gAll F_look_gap (aCons (eVar 0) (aCons (eVar 1) (aCons (eVar 3) aNil))) aNil) aNil)) aNil)))))
noncomputable def B_events_in (F_all_events F_can_come : List D → M D) : FSx := (sRet (eCallP tupleD (aCons (eComp [2] (iSeqD (eCall 1 0 gAll F_all_events (aCons (eVar 0) aNil) aNil)) (gName' 2) (asT (eCall 3 0 gAll F_can_come (aCons (eVar 0) (aCons (eVar 1) (aCons (eVar 2) aNil))) aNil)) (eVar 2)) aNil)))
noncomputable def B_fault_in (F_can_come F_is_event_of F_stands_at : List D → M D) : FSx := (sSeq (sIf (tNot1 (asT (eCall 2 0 gAll F_is_event_of (aCons (eVar 0) (aCons (eVar 2) aNil)) aNil))) (sRet (eC (.str "event"))) sNext) (sSeq (sIf (tNot1 (asT (eCall 3 0 gAll F_stands_at (aCons (eVar 0) (aCons (eVar 1) (aCons (eVar 2) aNil))) aNil))) (sRet (eC (.str "place"))) sNext) (sRet (eIf (asT (eCall 3 0 gAll F_can_come (aCons (eVar 0) (aCons (eVar 1) (aCons (eVar 2) aNil))) aNil)) (eC (.str "")) (eC (.str "look"))))))
noncomputable def B_first_state : FSx := (sSeq (sAsg (eVar 0) (gTup' 3 (gsCons (gName' 1) (gsCons (gName' 2) (gsCons (gName' 3) gsNil))))) (sRet (eTup (aCons (eBin mulD (eTup (aCons (eC (.int 0)) aNil)) (eCallP lenD (aCons (eVar 3) aNil))) (aCons (eBin mulD (eTup (aCons (eC (.int 0)) aNil)) (eCallP lenD (aCons (eVar 1) aNil))) (aCons (eBin mulD (eTup (aCons (eC (.int 0)) aNil)) (eCallP lenD (aCons (eVar 2) aNil))) aNil))))))
noncomputable def B_is_event_of (F_is_name F_is_number F_party_names F_party_spot : List D → M D) : FSx := (sSeq (sIf (tOr2 (tNot1 (asT (eUn (isiD .tuple) (eVar 1)))) (tOr2 (asB (eBin neD (eCallP lenD (aCons (eVar 1) aNil)) (eC (.int 2)))) (tOr2 (tNot1 (asT (eCall 1 0 gAll F_is_name (aCons (eBin ixD (eVar 1) (eC (.int 0))) aNil) aNil))) (tNot1 (asT (eCall 1 0 gAll F_is_number (aCons (eBin ixD (eVar 1) (eC (.int 1))) aNil) aNil)))))) (sRet (eC (.bl false))) sNext) (sRet (eAnd2 (eBin inD (eBin ixD (eVar 1) (eC (.int 0))) (eCall 1 0 gAll F_party_names (aCons (eVar 0) aNil) aNil)) (eBin ltD (eBin ixD (eVar 1) (eC (.int 1))) (eCallP lenD (aCons (eBin ixD (eBin ixD (eBin ixD (eVar 0) (eC (.int 2))) (eCall 2 0 gAll F_party_spot (aCons (eVar 0) (aCons (eBin ixD (eVar 1) (eC (.int 0))) aNil)) aNil)) (eC (.int 1))) aNil))))))
noncomputable def B_is_integer : FSx := (sRet (eAnd2 (eUn (isiD .int) (eVar 0)) (eNot1 (eUn (isiD .bool) (eVar 0)))))
noncomputable def B_is_name (C_LETTERS C_LONGEST_NAME : D) : FSx := (sSeq (sIf (tOr2 (tNot1 (asT (eUn (isiD .str) (eVar 0)))) (tNot1 (asB (eChain leD leD (eC (.int 1)) (eCallP lenD (aCons (eVar 0) aNil)) (eC C_LONGEST_NAME))))) (sRet (eC (.bl false))) sNext) (sRet (eCallP allD (aCons (eComp [1] (iSeqD (eVar 0)) (gName' 1) tTrue (eBin inD (eVar 1) (eC C_LETTERS))) aNil))))
noncomputable def B_is_number (F_is_integer : List D → M D) : FSx := (sRet (eAnd2 (eCall 1 0 gAll F_is_integer (aCons (eVar 0) aNil) aNil) (eBin geD (eVar 0) (eC (.int 0)))))
noncomputable def B_is_run (F_run_fault : List D → M D) : FSx := (sRet (eBin isND (eCall 2 0 gAll F_run_fault (aCons (eVar 0) (aCons (eVar 1) aNil)) aNil) (eC .non)))
noncomputable def B_is_true (C_EQUAL_WORDS C_ORDER_LOOKS : D) : FSx := (sSeq (sIf (asB (eBin inD (eVar 0) (eC C_ORDER_LOOKS))) (sRet (eBin eqD (eBin gtD (eVar 1) (eC (.int 0))) (eBin eqD (eVar 0) (eC (.str "newer"))))) sNext) (sRet (eBin eqD (eBin eqD (eVar 1) (eC (.int 0))) (eBin inD (eVar 0) (eC C_EQUAL_WORDS)))))
noncomputable def B_look_gap (F_owner_spot F_slot_spot : List D → M D) (C_COUNTER_LOOKS : D) : FSx := (sSeq (sAsg (eVar 1) (gTup' 3 (gsCons (gName' 3) (gsCons (gName' 4) (gsCons (gName' 5) gsNil))))) (sSeq (sAsg (eBin ixD (eVar 5) (eCall 2 0 gAll F_slot_spot (aCons (eVar 0) (aCons (eBin ixD (eVar 2) (eC (.int 1))) aNil)) aNil)) (gName' 6)) (sSeq (sIf (asB (eBin inD (eBin ixD (eVar 2) (eC (.int 0))) (eC C_COUNTER_LOOKS))) (sRet (eBin subD (eBin ixD (eVar 4) (eCall 2 0 gAll F_owner_spot (aCons (eVar 0) (aCons (eBin ixD (eVar 2) (eC (.int 1))) aNil)) aNil)) (eVar 6))) sNext) (sRet (eBin subD (eVar 6) (eBin ixD (eVar 5) (eCall 2 0 gAll F_slot_spot (aCons (eVar 0) (aCons (eBin ixD (eVar 2) (eC (.int 2))) aNil)) aNil)))))))
noncomputable def B_next_events (F_events_in F_state_after : List D → M D) : FSx := (sRet (eCall 2 0 gAll F_events_in (aCons (eVar 0) (aCons (eCall 2 0 gAll F_state_after (aCons (eVar 0) (aCons (eVar 1) aNil)) aNil) aNil)) aNil))
noncomputable def B_owner_spot (F_slot_spot : List D → M D) : FSx := (sRet (eMeth ["list", "tuple"] indexD (eBin ixD (eVar 0) (eC (.int 0))) (aCons (eBin ixD (eBin ixD (eBin ixD (eVar 0) (eC (.int 1))) (eCall 2 0 gAll F_slot_spot (aCons (eVar 0) (aCons (eVar 1) aNil)) aNil)) (eC (.int 1))) aNil)))
noncomputable def B_party_names : FSx := (sRet (eComp [1, 2] (iSeqD (eBin ixD (eVar 0) (eC (.int 2)))) (gTup' 2 (gsCons (gName' 1) (gsCons (gName' 2) gsNil))) tTrue (eVar 1)))
noncomputable def B_party_spot (F_party_names : List D → M D) : FSx := (sRet (eMeth ["list", "tuple"] indexD (eCall 1 0 gAll F_party_names (aCons (eVar 0) aNil) aNil) (aCons (eVar 1) aNil)))
noncomputable def B_places_after (F_state_after : List D → M D) : FSx := (sRet (eBin ixD (eCall 2 0 gAll F_state_after (aCons (eVar 0) (aCons (eVar 1) aNil)) aNil) (eC (.int 0))))
noncomputable def B_put_at : FSx := (sRet (eTup (aStar (eSl (eVar 0) oNone (oSome (eVar 1))) (aCons (eVar 2) (aStar (eSl (eVar 0) (oSome (eBin addD (eVar 1) (eC (.int 1)))) oNone) aNil)))))
noncomputable def B_require_given : FSx := (sIf (tNot1 (asT (eVar 0))) sNo sNext)
noncomputable def B_run_fault (F_fault_in F_first_state F_state_behind : List D → M D) : FSx := (sSeq (sIf (tNot1 (asT (eUn (isiD .tuple) (eVar 1)))) (sRet (eTup (aCons (eC (.str "shape")) (aCons (eUn negD (eC (.int 1))) aNil)))) sNext) (sSeq (sAsg (eCall 1 0 gAll F_first_state (aCons (eVar 0) aNil) aNil) (gName' 2)) (sSeq (sFor (iEnumD (aCons (eVar 1) aNil)) (gTup' 2 (gsCons (gName' 3) (gsCons (gName' 4) gsNil))) (sSeq (sAsg (eCall 3 0 gAll F_fault_in (aCons (eVar 0) (aCons (eVar 2) (aCons (eVar 4) aNil))) aNil) (gName' 5)) (sSeq (sIf (asB (eBin neD (eVar 5) (eC (.str "")))) (sRet (eTup (aCons (eVar 5) (aCons (eVar 3) aNil)))) sNext) (sAsg (eCall 3 0 gAll F_state_behind (aCons (eVar 0) (aCons (eVar 2) (aCons (eVar 4) aNil))) aNil) (gName' 2))))) (sRet (eC .non)))))
noncomputable def B_slot_spot : FSx := (sRet (eMeth ["list", "tuple"] indexD (eComp [2, 3] (iSeqD (eBin ixD (eVar 0) (eC (.int 1)))) (gTup' 2 (gsCons (gName' 2) (gsCons (gName' 3) gsNil))) tTrue (eVar 2)) (aCons (eVar 1) aNil)))
noncomputable def B_stands_at (F_arrow_at F_party_spot : List D → M D) : FSx := (sRet (eBin eqD (eBin ixD (eBin ixD (eVar 1) (eC (.int 0))) (eCall 2 0 gAll F_party_spot (aCons (eVar 0) (aCons (eBin ixD (eVar 2) (eC (.int 0))) aNil)) aNil)) (eBin ixD (eCall 2 0 gAll F_arrow_at (aCons (eVar 0) (aCons (eVar 2) aNil)) aNil) (eC (.int 0)))))
noncomputable def B_state_after (F_is_run F_require_given F_states_along : List D → M D) : FSx := (sSeq (sExpr (eCall 2 0 (gDef [.int (-1)]) F_require_given (aCons (eCall 2 0 gAll F_is_run (aCons (eVar 0) (aCons (eVar 1) aNil)) aNil) (aCons (eC (.str "made")) aNil)) aNil)) (sRet (eBin ixD (eCall 2 0 gAll F_states_along (aCons (eVar 0) (aCons (eVar 1) aNil)) aNil) (eUn negD (eC (.int 1))))))
noncomputable def B_state_behind (F_arrow_at F_owner_spot F_party_spot F_put_at F_slot_spot : List D → M D) : FSx := (sSeq (sAsg (eVar 1) (gTup' 3 (gsCons (gName' 3) (gsCons (gName' 4) (gsCons (gName' 5) gsNil))))) (sSeq (sAsg (eCall 2 0 gAll F_arrow_at (aCons (eVar 0) (aCons (eVar 2) aNil)) aNil) (gTup' 3 (gsCons (gName' 6) (gsCons (gName' 7) (gsCons (gName' 8) gsNil))))) (sSeq (sAsg (eCall 3 0 gAll F_put_at (aCons (eVar 3) (aCons (eCall 2 0 gAll F_party_spot (aCons (eVar 0) (aCons (eBin ixD (eVar 2) (eC (.int 0))) aNil)) aNil) (aCons (eVar 8) aNil))) aNil) (gName' 3)) (sSeq (sIf (asB (eBin eqD (eBin ixD (eVar 7) (eC (.int 0))) (eC (.str "rise")))) (sSeq (sAsg (eMeth ["list", "tuple"] indexD (eBin ixD (eVar 0) (eC (.int 0))) (aCons (eBin ixD (eVar 7) (eC (.int 1))) aNil)) (gName' 9)) (sAsg (eCall 3 0 gAll F_put_at (aCons (eVar 4) (aCons (eVar 9) (aCons (eBin addD (eBin ixD (eVar 4) (eVar 9)) (eBin ixD (eVar 7) (eC (.int 2)))) aNil))) aNil) (gName' 4))) (sIf (asB (eBin eqD (eBin ixD (eVar 7) (eC (.int 0))) (eC (.str "keep")))) (sAsg (eCall 3 0 gAll F_put_at (aCons (eVar 5) (aCons (eCall 2 0 gAll F_slot_spot (aCons (eVar 0) (aCons (eBin ixD (eVar 7) (eC (.int 1))) aNil)) aNil) (aCons (eBin ixD (eVar 4) (eCall 2 0 gAll F_owner_spot (aCons (eVar 0) (aCons (eBin ixD (eVar 7) (eC (.int 1))) aNil)) aNil)) aNil))) aNil) (gName' 5)) (sIf (asB (eBin eqD (eBin ixD (eVar 7) (eC (.int 0))) (eC (.str "copy")))) (sAsg (eCall 3 0 gAll F_put_at (aCons (eVar 5) (aCons (eCall 2 0 gAll F_slot_spot (aCons (eVar 0) (aCons (eBin ixD (eVar 7) (eC (.int 1))) aNil)) aNil) (aCons (eBin ixD (eVar 5) (eCall 2 0 gAll F_slot_spot (aCons (eVar 0) (aCons (eBin ixD (eVar 7) (eC (.int 2))) aNil)) aNil)) aNil))) aNil) (gName' 5)) sNext))) (sRet (eTup (aCons (eVar 3) (aCons (eVar 4) (aCons (eVar 5) aNil)))))))))
noncomputable def B_states_along (F_first_state F_state_behind : List D → M D) : FSx := (sSeq (sAsg (eNewL (aCons (eCall 1 0 gAll F_first_state (aCons (eVar 0) aNil) aNil) aNil)) (gName' 2)) (sSeq (sFor (iSeqD (eVar 1)) (gName' 3) (sExpr (eMut ["list"] appendD (eVar 2) (aCons (eCall 3 0 gAll F_state_behind (aCons (eVar 0) (aCons (eBin ixD (eVar 2) (eUn negD (eC (.int 1)))) (aCons (eVar 3) aNil))) aNil) aNil)))) (sRet (eVar 2))))
end SS
end

section
set_option Elab.async false
set_option linter.all false
set_option maxRecDepth 100000
set_option autoImplicit false
set_option maxHeartbeats 2000000
namespace SS
open PySem PySem.Spec PyProof.Rows L2 FL
noncomputable def B__law_draw_2 : FSx := (sSeq (sAsg (eBin addD (eBin ixD (eVar 0) (eC (.int 3))) (eC (.int 1))) (gSub' (eVar 0) (eC (.int 3)))) (sSeq (sIf (asB (eBin gtD (eBin ixD (eVar 0) (eC (.int 2))) (eC (.int 0)))) (sSeq (sAsg (eBin modD (eCallP intD (aCons (eBin ixD (eVar 0) (eC (.int 2))) aNil)) (eVar 1)) (gName' 2)) (sSeq (sAsg (eBin fdivD (eBin ixD (eVar 0) (eC (.int 2))) (eVar 1)) (gSub' (eVar 0) (eC (.int 2)))) (sRet (eVar 2)))) sNext) (sSeq (sAsg (eBin ixD (eVar 0) (eC (.int 1))) (gName' 3)) (sSeq (sAsg (eBin addD (eVar 3) (eC (.int 1))) (gSub' (eVar 0) (eC (.int 1)))) (sSeq (sAsg (eIf (asB (eBin neD (eBin ixD (eVar 0) (eC (.int 0))) (eLst aNil))) (eBin ixD (eBin ixD (eVar 0) (eC (.int 0))) (eBin modD (eCallP intD (aCons (eVar 3) aNil)) (eCallP lenD (aCons (eBin ixD (eVar 0) (eC (.int 0))) aNil)))) (eC (.int 131))) (gName' 4)) (sSeq (sIf (tAnd2 (asB (eBin geD (eVar 4) (eBin powD (eC (.int 10)) (eC (.int 18))))) (asB (eBin ltD (eVar 3) (eCallP lenD (aCons (eBin ixD (eVar 0) (eC (.int 0))) aNil))))) (sSeq (sAsg (eBin fdivD (eVar 4) (eVar 1)) (gSub' (eVar 0) (eC (.int 2)))) (sRet (eBin modD (eCallP intD (aCons (eVar 4) aNil)) (eVar 1)))) sNext) (sSeq (sAsg (eBin modD (eCallP intD (aCons (eBin powD (eBin addD (eBin addD (eBin modD (eCallP intD (aCons (eVar 4) aNil)) (eC (.int 1999999943))) (eBin mulD (eC (.int 48239)) (eBin ixD (eVar 0) (eC (.int 3))))) (eC (.int 283))) (eC (.int 3))) aNil)) (eC (.int 2147483423))) (gName' 5)) (sSeq (sAsg (eBin modD (eCallP intD (aCons (eBin powD (eBin addD (eBin addD (eVar 5) (eBin mulD (eBin mulD (eC (.int 8243)) (eBin ixD (eVar 0) (eC (.int 3)))) (eBin ixD (eVar 0) (eC (.int 3))))) (eC (.int 131))) (eC (.int 5))) aNil)) (eC (.int 2147483477))) (gName' 5)) (sRet (eBin modD (eCallP intD (aCons (eBin fdivD (eVar 5) (eC (.int 64))) aNil)) (eVar 1)))))))))))
noncomputable def B__law_runs_E1 (F__law_after F__law_begun F__law_open : List D → M D) : FEx := (eTup (aCons (eBin addD (eVar 5) (eTup (aCons (eVar 7) aNil))) (aCons (eCall 3 0 gAll F__law_after (aCons (eVar 0) (aCons (eVar 6) (aCons (eVar 7) aNil))) aNil) aNil)))
noncomputable def B__law_runs_L1 (F__law_after F__law_begun F__law_open : List D → M D) : FSx := (sAsg (eBin addD (eVar 4) (eComp [7] (iSeqD (eCall 2 0 gAll F__law_open (aCons (eVar 0) (aCons (eVar 6) aNil)) aNil)) (gName' 7) tTrue (B__law_runs_E1 F__law_after F__law_begun F__law_open))) (gName' 4))
noncomputable def B__law_runs_L2 (F__law_after F__law_begun F__law_open : List D → M D) : FSx := (sSeq (sAsg (eLst aNil) (gName' 4)) (sSeq (sFor (iSeqD (eVar 2)) (gTup' 2 (gsCons (gName' 5) (gsCons (gName' 6) gsNil))) (B__law_runs_L1 F__law_after F__law_begun F__law_open)) (sSeq (sIf (asB (eBin gtD (eBin addD (eCallP lenD (aCons (eVar 1) aNil)) (eCallP lenD (aCons (eVar 4) aNil))) (eC (.int 40)))) (sRet (eVar 1)) sNext) (sPar 1 2 (aCons (eBin addD (eVar 1) (eVar 4)) (aCons (eVar 4) aNil))))))
noncomputable def B__law_runs (F__law_after F__law_begun F__law_open : List D → M D) : FSx := (sSeq (sAsg (eLst (aCons (eTup (aCons (eTup aNil) (aCons (eCall 1 0 gAll F__law_begun (aCons (eVar 0) aNil) aNil) aNil))) aNil)) (gName' 1)) (sSeq (sAsg (eVar 1) (gName' 2)) (sSeq (sFor (iRange rangeD1 (aCons (eC (.int 6)) aNil)) (gName' 3) (B__law_runs_L2 F__law_after F__law_begun F__law_open)) (sRet (eVar 1)))))
noncomputable def B_lets_run (F_run_fault : List D → M D) : FSx := (sSeq (sAsg (eCall 2 0 gAll F_run_fault (aCons (eVar 0) (aCons (eVar 1) aNil)) aNil) (gName' 2)) (sSeq (sIf (asB (eBin isNND (eVar 2) (eC .non))) (sSeq (sAsg (eVar 2) (gTup' 2 (gsCons (gName' 3) (gsCons (gName' 4) gsNil)))) sNo) sNext) (sRet (eCallP lenD (aCons (eVar 1) aNil)))))
end SS
end

section
set_option Elab.async false
set_option linter.all false
set_option maxRecDepth 100000
set_option autoImplicit false
set_option maxHeartbeats 2000000
namespace SS
open PySem PySem.Spec PyProof.Rows L2 FL
/-! how the combinators of the mirrors go on -/
/-- one part, then the rest -/
def tn {α β : Type} (m : R α) (k : α → Sto → R β) : R β := match m with
  | .ok a S => k a S
  | .ex x S => .ex x S
  | .no => .no
def oR {α : Type} (o : Option α) (S : Sto) : R α := match o with
  | some a => .ok a S
  | none => .no
def nx {α : Type} : R α → R α
  | .ok a S => .ok a S
  | _ => .no
theorem tn_ok {α β : Type} (a : α) (S : Sto) (k : α → Sto → R β) : tn (.ok a S) k = k a S := rfl
theorem oR_some {α : Type} (a : α) (S : Sto) : oR (some a) S = .ok a S := rfl
theorem nx_ok {α : Type} (a : α) (S : Sto) : nx (.ok a S) = .ok a S := rfl
theorem ev_var (i : Nat) (r : FL.Env) (S : Sto) : eVar i r S = oR (r[i]?.join) S := by unfold eVar oR opt; cases r[i]?.join <;> rfl
theorem ev_c (d : D) (r : FL.Env) (S : Sto) : eC d r S = .ok d S := rfl
def kBin2 (g : D → D → Option D) (x y : D) (S : Sto) : R D := oR (g (vw S x) (vw S y)) S
def kBin1 (g : D → D → Option D) (fb : FEx) (r : FL.Env) (x : D) (S : Sto) : R D := tn (fb r S) (kBin2 g x)
theorem ev_bin (g : D → D → Option D) (fa fb : FEx) (r : FL.Env) (S : Sto) : eBin g fa fb r S = tn (fa r S) (kBin1 g fb r) := by
  show bnd (fa r) _ S = _
  simp only [bnd, tn]
  cases fa r S with
  | ok x S1 =>
    simp only [kBin1, tn]
    cases fb r S1 with
    | ok y S2 => simp only [kBin2, oR, opt]; cases g (vw S2 x) (vw S2 y) <;> rfl
    | ex x S => rfl
    | no => rfl
  | ex x S => rfl
  | no => rfl
theorem ev_kBin1 (g : D → D → Option D) (fb : FEx) (r : FL.Env) (x : D) (S : Sto) : kBin1 g fb r x S = tn (fb r S) (kBin2 g x) := rfl
theorem ev_kBin2 (g : D → D → Option D) (x y : D) (S : Sto) : kBin2 g x y S = oR (g (vw S x) (vw S y)) S := rfl
def kUn (g : D → Option D) (x : D) (S : Sto) : R D := oR (g (vw S x)) S
theorem ev_un (g : D → Option D) (f : FEx) (r : FL.Env) (S : Sto) : eUn g f r S = tn (f r S) (kUn g) := by
  show bnd (f r) _ S = _
  simp only [bnd, tn]
  cases f r S with
  | ok a S1 => simp only [kUn, oR, opt]; cases g (vw S1 a) <;> rfl
  | ex x S => rfl
  | no => rfl
theorem ev_kUn (g : D → Option D) (x : D) (S : Sto) : kUn g x S = oR (g (vw S x)) S := rfl
def kB : D → Sto → R Bool
  | .bl k, S => .ok k S
  | _, _ => .no
theorem ev_asB (f : FEx) (r : FL.Env) (S : Sto) : asB f r S = tn (f r S) (kB) := by
  show bnd (f r) _ S = _
  simp only [bnd, tn]
  cases f r S with
  | ok a S1 => cases a <;> rfl
  | ex x S => rfl
  | no => rfl
theorem ev_kB (k : Bool) (S : Sto) : kB (.bl k) S = .ok k S := rfl
def kT (d : D) (S : Sto) : R Bool := oR (truD (vw S d)) S
theorem ev_asT (f : FEx) (r : FL.Env) (S : Sto) : asT f r S = tn (f r S) (kT) := by
  show bnd (f r) _ S = _
  simp only [bnd, tn]
  cases f r S with
  | ok a S1 => simp only [kT, oR, opt]; cases truD (vw S1 a) <;> rfl
  | ex x S => rfl
  | no => rfl
theorem ev_kT (d : D) (S : Sto) : kT d S = oR (truD (vw S d)) S := rfl
def kAnd (u : FTx) (r : FL.Env) : Bool → Sto → R Bool
  | true, S => u r S
  | false, S => .ok false S
theorem ev_tAnd2 (t u : FTx) (r : FL.Env) (S : Sto) : tAnd2 t u r S = tn (t r S) (kAnd u r) := by
  show bnd (t r) _ S = _
  simp only [bnd, tn]
  cases t r S with
  | ok a S1 => cases a <;> rfl
  | ex x S => rfl
  | no => rfl
theorem ev_kAndT (u : FTx) (r : FL.Env) (S : Sto) : kAnd u r true S = u r S := rfl
theorem ev_kAndF (u : FTx) (r : FL.Env) (S : Sto) : kAnd u r false S = .ok false S := rfl
def kOr (u : FTx) (r : FL.Env) : Bool → Sto → R Bool
  | true, S => .ok true S
  | false, S => u r S
theorem ev_tOr2 (t u : FTx) (r : FL.Env) (S : Sto) : tOr2 t u r S = tn (t r S) (kOr u r) := by
  show bnd (t r) _ S = _
  simp only [bnd, tn]
  cases t r S with
  | ok a S1 => cases a <;> rfl
  | ex x S => rfl
  | no => rfl
theorem ev_kOrT (u : FTx) (r : FL.Env) (S : Sto) : kOr u r true S = .ok true S := rfl
theorem ev_kOrF (u : FTx) (r : FL.Env) (S : Sto) : kOr u r false S = u r S := rfl
def kNot (k : Bool) (S : Sto) : R Bool := .ok (!k) S
theorem ev_not (t : FTx) (r : FL.Env) (S : Sto) : tNot1 t r S = tn (t r S) (kNot) := by
  show bnd (t r) _ S = _
  simp only [bnd, tn]
  cases t r S with
  | ok a S1 => rfl
  | ex x S => rfl
  | no => rfl
theorem ev_kNot (k : Bool) (S : Sto) : kNot k S = .ok (!k) S := rfl
def kAndE2 (g : FEx) (r : FL.Env) (d : D) : Bool → Sto → R D
  | true, S => g r S
  | false, S => .ok d S
def kAndE (g : FEx) (r : FL.Env) (d : D) (S : Sto) : R D := tn (oR (truD (vw S d)) S) (kAndE2 g r d)
theorem ev_eAnd2 (f g : FEx) (r : FL.Env) (S : Sto) : eAnd2 f g r S = tn (f r S) (kAndE g r) := by
  show bnd (f r) _ S = _
  simp only [bnd, tn]
  cases f r S with
  | ok a S1 => simp only [kAndE, oR, opt, tn]; cases truD (vw S1 a) with
    | none => rfl
    | some k => cases k <;> rfl
  | ex x S => rfl
  | no => rfl
theorem ev_kAndE (g : FEx) (r : FL.Env) (d : D) (S : Sto) : kAndE g r d S = tn (oR (truD (vw S d)) S) (kAndE2 g r d) := rfl
theorem ev_kAndET (g : FEx) (r : FL.Env) (d : D) (S : Sto) : kAndE2 g r d true S = g r S := rfl
theorem ev_kAndEF (g : FEx) (r : FL.Env) (d : D) (S : Sto) : kAndE2 g r d false S = .ok d S := rfl
def kOrE2 (g : FEx) (r : FL.Env) (d : D) : Bool → Sto → R D
  | true, S => .ok d S
  | false, S => g r S
def kOrE (g : FEx) (r : FL.Env) (d : D) (S : Sto) : R D := tn (oR (truD (vw S d)) S) (kOrE2 g r d)
theorem ev_eOr2 (f g : FEx) (r : FL.Env) (S : Sto) : eOr2 f g r S = tn (f r S) (kOrE g r) := by
  show bnd (f r) _ S = _
  simp only [bnd, tn]
  cases f r S with
  | ok a S1 => simp only [kOrE, oR, opt, tn]; cases truD (vw S1 a) with
    | none => rfl
    | some k => cases k <;> rfl
  | ex x S => rfl
  | no => rfl
theorem ev_kOrE (g : FEx) (r : FL.Env) (d : D) (S : Sto) : kOrE g r d S = tn (oR (truD (vw S d)) S) (kOrE2 g r d) := rfl
theorem ev_kOrET (g : FEx) (r : FL.Env) (d : D) (S : Sto) : kOrE2 g r d true S = .ok d S := rfl
theorem ev_kOrEF (g : FEx) (r : FL.Env) (d : D) (S : Sto) : kOrE2 g r d false S = g r S := rfl
def kNotE2 (k : Bool) (S : Sto) : R D := .ok (.bl (!k)) S
def kNotE (d : D) (S : Sto) : R D := tn (oR (truD (vw S d)) S) kNotE2
theorem ev_eNot1 (f : FEx) (r : FL.Env) (S : Sto) : eNot1 f r S = tn (f r S) (kNotE) := by
  show bnd (f r) _ S = _
  simp only [bnd, tn]
  cases f r S with
  | ok a S1 => simp only [kNotE, oR, opt, tn]; cases truD (vw S1 a) <;> rfl
  | ex x S => rfl
  | no => rfl
theorem ev_kNotE (d : D) (S : Sto) : kNotE d S = tn (oR (truD (vw S d)) S) kNotE2 := rfl
theorem ev_kNotE2 (k : Bool) (S : Sto) : kNotE2 k S = .ok (.bl (!k)) S := rfl
def kIf (f g : FEx) (r : FL.Env) : Bool → Sto → R D
  | true, S => f r S
  | false, S => g r S
theorem ev_if (t : FTx) (f g : FEx) (r : FL.Env) (S : Sto) : eIf t f g r S = tn (t r S) (kIf f g r) := by
  show bnd (t r) _ S = _
  simp only [bnd, tn]
  cases t r S with
  | ok a S1 => cases a <;> rfl
  | ex x S => rfl
  | no => rfl
theorem ev_kIfT (f g : FEx) (r : FL.Env) (S : Sto) : kIf f g r true S = f r S := rfl
theorem ev_kIfF (f g : FEx) (r : FL.Env) (S : Sto) : kIf f g r false S = g r S := rfl
theorem ev_aNil (r : FL.Env) (S : Sto) : aNil r S = .ok [] S := rfl
def kCons2 (x : D) (xs : List D) (S : Sto) : R (List D) := .ok (x :: xs) S
def kCons (g : FAx) (r : FL.Env) (x : D) (S : Sto) : R (List D) := tn (g r S) (kCons2 x)
theorem ev_aCons (f : FEx) (g : FAx) (r : FL.Env) (S : Sto) : aCons f g r S = tn (f r S) (kCons g r) := by
  show bnd (f r) _ S = _
  simp only [bnd, tn]
  cases f r S with
  | ok a S1 => simp only [kCons, tn]; cases g r S1 <;> rfl
  | ex x S => rfl
  | no => rfl
theorem ev_kCons (g : FAx) (r : FL.Env) (x : D) (S : Sto) : kCons g r x S = tn (g r S) (kCons2 x) := rfl
theorem ev_kCons2 (x : D) (xs : List D) (S : Sto) : kCons2 x xs S = .ok (x :: xs) S := rfl
def kStar3 (xs ys : List D) (S : Sto) : R (List D) := .ok (xs ++ ys) S
def kStar2 (g : FAx) (r : FL.Env) (xs : List D) (S : Sto) : R (List D) := tn (g r S) (kStar3 xs)
def kStar (g : FAx) (r : FL.Env) (x : D) (S : Sto) : R (List D) := tn (oR (alt (vw S x).tup? (vw S x).lst?) S) (kStar2 g r)
theorem ev_aStar (f : FEx) (g : FAx) (r : FL.Env) (S : Sto) : aStar f g r S = tn (f r S) (kStar g r) := by
  show bnd (f r) _ S = _
  simp only [bnd, tn]
  cases f r S with
  | ok a S1 => simp only [kStar, oR, opt, tn]; cases alt (vw S1 a).tup? (vw S1 a).lst? with
    | none => rfl
    | some xs => simp only [kStar2, tn]; cases g r S1 <;> rfl
  | ex x S => rfl
  | no => rfl
theorem ev_kStar (g : FAx) (r : FL.Env) (x : D) (S : Sto) : kStar g r x S = tn (oR (alt (vw S x).tup? (vw S x).lst?) S) (kStar2 g r) := rfl
theorem ev_kStar2 (g : FAx) (r : FL.Env) (xs : List D) (S : Sto) : kStar2 g r xs S = tn (g r S) (kStar3 xs) := rfl
theorem ev_kStar3 (xs ys : List D) (S : Sto) : kStar3 xs ys S = .ok (xs ++ ys) S := rfl
def kTup2 (ys : List D) (S : Sto) : R D := .ok (.tup ys) S
def kTup (xs : List D) (S : Sto) : R D := tn (oR (few xs) S) kTup2
theorem ev_eTup (g : FAx) (r : FL.Env) (S : Sto) : eTup g r S = tn (g r S) (kTup) := by
  show bnd (g r) _ S = _
  simp only [bnd, tn]
  cases g r S with
  | ok a S1 => simp only [kTup, oR, opt, tn]; cases few a <;> rfl
  | ex x S => rfl
  | no => rfl
theorem ev_kTup (xs : List D) (S : Sto) : kTup xs S = tn (oR (few xs) S) kTup2 := rfl
theorem ev_kTup2 (ys : List D) (S : Sto) : kTup2 ys S = .ok (.tup ys) S := rfl
def kLst2 (ys : List D) (S : Sto) : R D := .ok (.lst ys) S
def kLst (xs : List D) (S : Sto) : R D := tn (oR (few xs) S) kLst2
theorem ev_eLst (g : FAx) (r : FL.Env) (S : Sto) : eLst g r S = tn (g r S) (kLst) := by
  show bnd (g r) _ S = _
  simp only [bnd, tn]
  cases g r S with
  | ok a S1 => simp only [kLst, oR, opt, tn]; cases few a <;> rfl
  | ex x S => rfl
  | no => rfl
theorem ev_kLst (xs : List D) (S : Sto) : kLst xs S = tn (oR (few xs) S) kLst2 := rfl
theorem ev_kLst2 (ys : List D) (S : Sto) : kLst2 ys S = .ok (.lst ys) S := rfl
def kNewL2 (ys : List D) (S : Sto) : R D := .ok (.ref S.length) (S ++ [.lst ys])
def kNewL (xs : List D) (S : Sto) : R D := tn (oR (few xs) S) kNewL2
theorem ev_eNewL (g : FAx) (r : FL.Env) (S : Sto) : eNewL g r S = tn (g r S) (kNewL) := by
  show bnd (g r) _ S = _
  simp only [bnd, tn]
  cases g r S with
  | ok a S1 => simp only [kNewL, oR, opt, tn]; cases few a <;> rfl
  | ex x S => rfl
  | no => rfl
theorem ev_kNewL (xs : List D) (S : Sto) : kNewL xs S = tn (oR (few xs) S) kNewL2 := rfl
theorem ev_kNewL2 (ys : List D) (S : Sto) : kNewL2 ys S = .ok (.ref S.length) (S ++ [.lst ys]) := rfl
theorem ev_newD (r : FL.Env) (S : Sto) : eNewD r S = .ok (.ref S.length) (S ++ [.dct []]) := rfl
def kCallP (g : List D → Option D) (xs : List D) (S : Sto) : R D := oR (g (xs.map (vw S))) S
theorem ev_callP (g : List D → Option D) (f : FAx) (r : FL.Env) (S : Sto) : eCallP g f r S = tn (f r S) (kCallP g) := by
  show bnd (f r) _ S = _
  simp only [bnd, tn]
  cases f r S with
  | ok a S1 => simp only [kCallP, oR, opt]; cases g (a.map (vw S1)) <;> rfl
  | ex x S => rfl
  | no => rfl
theorem ev_kCallP (g : List D → Option D) (xs : List D) (S : Sto) : kCallP g xs S = oR (g (xs.map (vw S))) S := rfl
def kCall2 (n m : Nat) (g : List D → List D → List D) (F : List D → M D) (ds es : List D) (S : Sto) : R D := if ds.length = n ∧ es.length = m then F (g ds es) S else .no
def kCall (n m : Nat) (g : List D → List D → List D) (F : List D → M D) (fk : FAx) (r : FL.Env) (ds : List D) (S : Sto) : R D := tn (fk r S) (kCall2 n m g F ds)
theorem ev_call (n m : Nat) (g : List D → List D → List D) (F : List D → M D) (fa fk : FAx) (r : FL.Env) (S : Sto) : eCall n m g F fa fk r S = tn (fa r S) (kCall n m g F fk r) := by
  show bnd (fa r) _ S = _
  simp only [bnd, tn]
  cases fa r S with
  | ok a S1 => simp only [kCall, tn]; cases fk r S1 with
    | ok es S2 => simp only [kCall2]; split <;> rfl
    | ex x S => rfl
    | no => rfl
  | ex x S => rfl
  | no => rfl
theorem ev_kCall (n m : Nat) (g : List D → List D → List D) (F : List D → M D) (fk : FAx) (r : FL.Env) (ds : List D) (S : Sto) : kCall n m g F fk r ds S = tn (fk r S) (kCall2 n m g F ds) := rfl
theorem ev_kCall2 (n m : Nat) (g : List D → List D → List D) (F : List D → M D) (ds es : List D) (S : Sto) : kCall2 n m g F ds es S = if ds.length = n ∧ es.length = m then F (g ds es) S else .no := rfl
theorem ev_oNone (r : FL.Env) (S : Sto) : oNone r S = .ok none S := rfl
def kO2 (i : Int) (S : Sto) : R (Option Int) := .ok (some i) S
def kO (d : D) (S : Sto) : R (Option Int) := tn (oR d.int? S) kO2
theorem ev_oSome (f : FEx) (r : FL.Env) (S : Sto) : oSome f r S = tn (f r S) (kO) := by
  show bnd (f r) _ S = _
  simp only [bnd, tn]
  cases f r S with
  | ok a S1 => simp only [kO, oR, opt, tn]; cases a.int? <;> rfl
  | ex x S => rfl
  | no => rfl
theorem ev_kO (d : D) (S : Sto) : kO d S = tn (oR d.int? S) kO2 := rfl
theorem ev_kO2 (i : Int) (S : Sto) : kO2 i S = .ok (some i) S := rfl
def kSl3 (x : D) (lo hi : Option Int) (S : Sto) : R D := oR (slD (vw S x) lo hi) S
def kSl2 (u : FL.Env → M (Option Int)) (r : FL.Env) (x : D) (lo : Option Int) (S : Sto) : R D := tn (u r S) (kSl3 x lo)
def kSl (l u : FL.Env → M (Option Int)) (r : FL.Env) (x : D) (S : Sto) : R D := tn (l r S) (kSl2 u r x)
theorem ev_sl (f : FEx) (l u : FL.Env → M (Option Int)) (r : FL.Env) (S : Sto) : eSl f l u r S = tn (f r S) (kSl l u r) := by
  show bnd (f r) _ S = _
  simp only [bnd, tn]
  cases f r S with
  | ok a S1 => simp only [kSl, tn]; cases l r S1 with
    | ok lo S2 =>
      simp only [kSl2, tn]
      cases u r S2 with
      | ok hi S3 => simp only [kSl3, oR, opt]; cases slD (vw S3 a) lo hi <;> rfl
      | ex x S => rfl
      | no => rfl
    | ex x S => rfl
    | no => rfl
  | ex x S => rfl
  | no => rfl
theorem ev_kSl (l u : FL.Env → M (Option Int)) (r : FL.Env) (x : D) (S : Sto) : kSl l u r x S = tn (l r S) (kSl2 u r x) := rfl
theorem ev_kSl2 (u : FL.Env → M (Option Int)) (r : FL.Env) (x : D) (lo : Option Int) (S : Sto) : kSl2 u r x lo S = tn (u r S) (kSl3 x lo) := rfl
theorem ev_kSl3 (x : D) (lo hi : Option Int) (S : Sto) : kSl3 x lo hi S = oR (slD (vw S x) lo hi) S := rfl
def kM3 (g : D → List D → Option D) (x : D) (T : String) (xs : List D) (S : Sto) : R D := oR (if tyD (vw S x) = some T then g (vw S x) (xs.map (vw S)) else none) S
def kM2 (g : D → List D → Option D) (fa : FAx) (r : FL.Env) (x : D) (T : String) (S : Sto) : R D := tn (fa r S) (kM3 g x T)
def kM (ts : List String) (g : D → List D → Option D) (fa : FAx) (r : FL.Env) (x : D) (S : Sto) : R D := tn (oR (tyIn ts (vw S x)) S) (kM2 g fa r x)
theorem ev_meth (ts : List String) (g : D → List D → Option D) (fo : FEx) (fa : FAx) (r : FL.Env) (S : Sto) : eMeth ts g fo fa r S = tn (fo r S) (kM ts g fa r) := by
  show bnd (fo r) _ S = _
  simp only [bnd, tn]
  cases fo r S with
  | ok a S1 => simp only [kM, oR, opt, tn]; cases tyIn ts (vw S1 a) with
    | none => rfl
    | some T =>
      simp only [kM2, tn]
      cases fa r S1 with
      | ok xs S2 =>
        simp only [kM3, oR]
        generalize (if tyD (vw S2 a) = some T then g (vw S2 a) (List.map (vw S2) xs) else none) = o
        cases o <;> rfl
      | ex x S => rfl
      | no => rfl
  | ex x S => rfl
  | no => rfl
theorem ev_kM (ts : List String) (g : D → List D → Option D) (fa : FAx) (r : FL.Env) (x : D) (S : Sto) : kM ts g fa r x S = tn (oR (tyIn ts (vw S x)) S) (kM2 g fa r x) := rfl
theorem ev_kM2 (g : D → List D → Option D) (fa : FAx) (r : FL.Env) (x : D) (T : String) (S : Sto) : kM2 g fa r x T S = tn (fa r S) (kM3 g x T) := rfl
theorem ev_kM3 (g : D → List D → Option D) (x : D) (T : String) (xs : List D) (S : Sto) : kM3 g x T xs S = oR (if tyD (vw S x) = some T then g (vw S x) (xs.map (vw S)) else none) S := rfl
def kM0 (ts : List String) (g : D → List D → Option D) (x : D) (S : Sto) : R D := oR ((tyIn ts (vw S x)).bind fun _ => g (vw S x) []) S
theorem ev_meth0 (ts : List String) (g : D → List D → Option D) (fo : FEx) (r : FL.Env) (S : Sto) : eMeth0 ts g fo r S = tn (fo r S) (kM0 ts g) := by
  show bnd (fo r) _ S = _
  simp only [bnd, tn]
  cases fo r S with
  | ok a S1 => simp only [kM0, oR, opt]; cases (tyIn ts (vw S1 a)).bind fun _ => g (vw S1 a) [] <;> rfl
  | ex x S => rfl
  | no => rfl
theorem ev_kM0 (ts : List String) (g : D → List D → Option D) (x : D) (S : Sto) : kM0 ts g x S = oR ((tyIn ts (vw S x)).bind fun _ => g (vw S x) []) S := rfl
def kCh4 (g' : D → D → Option D) (y z : D) (S : Sto) : R D := oR (g' (vw S y) (vw S z)) S
def kCh3 (g' : D → D → Option D) (fc : FEx) (r : FL.Env) (y : D) : D → Sto → R D
  | .bl true, S => tn (fc r S) (kCh4 g' y)
  | .bl false, S => .ok (.bl false) S
  | _, _ => .no
def kCh2 (g g' : D → D → Option D) (fc : FEx) (r : FL.Env) (x y : D) (S : Sto) : R D := tn (oR (g (vw S x) (vw S y)) S) (kCh3 g' fc r y)
def kCh (g g' : D → D → Option D) (fb fc : FEx) (r : FL.Env) (x : D) (S : Sto) : R D := tn (fb r S) (kCh2 g g' fc r x)
theorem ev_chain (g g' : D → D → Option D) (fa fb fc : FEx) (r : FL.Env) (S : Sto) : eChain g g' fa fb fc r S = tn (fa r S) (kCh g g' fb fc r) := by
  show bnd (fa r) _ S = _
  simp only [bnd, tn]
  cases fa r S with
  | ok a S1 => simp only [kCh, tn]; cases fb r S1 with
    | ok y S2 =>
      simp only [kCh2, oR, opt, tn]
      cases g (vw S2 a) (vw S2 y) with
      | none => rfl
      | some k =>
        cases k with
        | bl b =>
          cases b with
          | false => rfl
          | true =>
            simp only [kCh3, tn, bnd]
            cases fc r S2 with
            | ok z S3 => simp only [kCh4, oR]; cases g' (vw S3 y) (vw S3 z) <;> rfl
            | ex x S => rfl
            | no => rfl
        | _ => rfl
    | ex x S => rfl
    | no => rfl
  | ex x S => rfl
  | no => rfl
theorem ev_kCh (g g' : D → D → Option D) (fb fc : FEx) (r : FL.Env) (x : D) (S : Sto) : kCh g g' fb fc r x S = tn (fb r S) (kCh2 g g' fc r x) := rfl
theorem ev_kCh2 (g g' : D → D → Option D) (fc : FEx) (r : FL.Env) (x y : D) (S : Sto) : kCh2 g g' fc r x y S = tn (oR (g (vw S x) (vw S y)) S) (kCh3 g' fc r y) := rfl
theorem ev_kCh3T (g' : D → D → Option D) (fc : FEx) (r : FL.Env) (y : D) (S : Sto) : kCh3 g' fc r y (.bl true) S = tn (fc r S) (kCh4 g' y) := rfl
theorem ev_kCh3F (g' : D → D → Option D) (fc : FEx) (r : FL.Env) (y : D) (S : Sto) : kCh3 g' fc r y (.bl false) S = .ok (.bl false) S := rfl
theorem ev_kCh4 (g' : D → D → Option D) (y z : D) (S : Sto) : kCh4 g' y z S = oR (g' (vw S y) (vw S z)) S := rfl
def kLs (xs : List D) (S : Sto) : R D := .ok (.lst xs) S
theorem ev_kLs (xs : List D) (S : Sto) : kLs xs S = .ok (.lst xs) S := rfl
def kComp (vs : List Nat) (b : FGx) (t : FTx) (e : FEx) (r : FL.Env) (ds : List D) (S : Sto) : R (List D) := compD b t e (wipeE r vs) ds [] S
theorem ev_kComp (vs : List Nat) (b : FGx) (t : FTx) (e : FEx) (r : FL.Env) (ds : List D) (S : Sto) : kComp vs b t e r ds S = compD b t e (wipeE r vs) ds [] S := rfl
theorem ev_comp (vs : List Nat) (fi : FAx) (b : FGx) (t : FTx) (e : FEx) (r : FL.Env) (S : Sto) : eComp vs fi b t e r S = tn (tn (fi r S) (kComp vs b t e r)) kLs := by
  show bnd (bnd (fi r) _) _ S = _
  simp only [bnd, tn]
  cases fi r S with
  | ok ds S1 => simp only [kComp]; cases compD b t e (wipeE r vs) ds [] S1 <;> rfl
  | ex x S => rfl
  | no => rfl
def kRef (xs : List D) (S : Sto) : R D := .ok (.ref S.length) (S ++ [.lst xs])
theorem ev_kRef (xs : List D) (S : Sto) : kRef xs S = .ok (.ref S.length) (S ++ [.lst xs]) := rfl
theorem ev_compM (vs : List Nat) (fi : FAx) (b : FGx) (t : FTx) (e : FEx) (r : FL.Env) (S : Sto) : eCompM vs fi b t e r S = tn (tn (fi r S) (kComp vs b t e r)) kRef := by
  show bnd (bnd (fi r) _) _ S = _
  simp only [bnd, tn]
  cases fi r S with
  | ok ds S1 => simp only [kComp]; cases compD b t e (wipeE r vs) ds [] S1 <;> rfl
  | ex x S => rfl
  | no => rfl
def kComp2 (vs : List Nat) (b : FGx) (t : FTx) (fi1 : FAx) (vs1 : List Nat) (b1 : FGx) (t1 : FTx) (e : FEx) (r : FL.Env) (ds : List D) (S : Sto) : R (List D) := compD2 b t fi1 vs1 b1 t1 e (wipeE r vs) ds [] S
theorem ev_kComp2 (vs : List Nat) (b : FGx) (t : FTx) (fi1 : FAx) (vs1 : List Nat) (b1 : FGx) (t1 : FTx) (e : FEx) (r : FL.Env) (ds : List D) (S : Sto) : kComp2 vs b t fi1 vs1 b1 t1 e r ds S = compD2 b t fi1 vs1 b1 t1 e (wipeE r vs) ds [] S := rfl
theorem ev_comp2 (vs : List Nat) (fi : FAx) (b : FGx) (t : FTx) (fi1 : FAx) (vs1 : List Nat) (b1 : FGx) (t1 : FTx) (e : FEx) (r : FL.Env) (S : Sto) : eComp2 vs fi b t fi1 vs1 b1 t1 e r S = tn (tn (fi r S) (kComp2 vs b t fi1 vs1 b1 t1 e r)) kLs := by
  show bnd (bnd (fi r) _) _ S = _
  simp only [bnd, tn]
  cases fi r S with
  | ok ds S1 => simp only [kComp2]; cases compD2 b t fi1 vs1 b1 t1 e (wipeE r vs) ds [] S1 <;> rfl
  | ex x S => rfl
  | no => rfl
def kIt (d : D) (S : Sto) : R (List D) := oR (itemsD d) S
theorem ev_iSeq (f : FEx) (r : FL.Env) (S : Sto) : iSeqD f r S = tn (f r S) (kIt) := by
  show bnd (f r) _ S = _
  simp only [bnd, tn]
  cases f r S with
  | ok a S1 => simp only [kIt, oR, opt]; cases itemsD a <;> rfl
  | ex x S => rfl
  | no => rfl
theorem ev_kIt (d : D) (S : Sto) : kIt d S = oR (itemsD d) S := rfl
def kRg (g : List D → Option (List D)) (ds : List D) (S : Sto) : R (List D) := oR (g ds) S
theorem ev_iRange (g : List D → Option (List D)) (f : FAx) (r : FL.Env) (S : Sto) : iRange g f r S = tn (f r S) (kRg g) := by
  show bnd (f r) _ S = _
  simp only [bnd, tn]
  cases f r S with
  | ok a S1 => simp only [kRg, oR, opt]; cases g a <;> rfl
  | ex x S => rfl
  | no => rfl
theorem ev_kRg (g : List D → Option (List D)) (ds : List D) (S : Sto) : kRg g ds S = oR (g ds) S := rfl
def enD (ds : List D) : Option (List D) := one (fun d => (alt d.lst? d.tup?).map enumL) ds
theorem ev_enT (xs : List D) : enD [.tup xs] = some (enumL xs) := rfl
theorem ev_enL (xs : List D) : enD [.lst xs] = some (enumL xs) := rfl
theorem ev_iEnum (f : FAx) (r : FL.Env) (S : Sto) : iEnumD f r S = tn (f r S) (kRg enD) := by
  show bnd (f r) _ S = _
  simp only [bnd, tn]
  cases f r S with
  | ok a S1 => simp only [kRg, oR, opt, enD]; cases one (fun d => (alt d.lst? d.tup?).map enumL) a <;> rfl
  | ex x S => rfl
  | no => rfl
theorem items_lst (xs : List D) : itemsD (.lst xs) = some xs := rfl
theorem items_tup (xs : List D) : itemsD (.tup xs) = some xs := rfl
theorem items_str (x : Str) : itemsD (.str x) = some (x.cps.toList.map fun c => .str ⟨#[c]⟩) := rfl
theorem ev_true (r : FL.Env) (S : Sto) : tTrue r S = .ok true S := rfl
def kRet (d : D) (S : Sto) : R Fl := .ok (.rt d) S
theorem ev_ret (f : FEx) (r : FL.Env) (S : Sto) : sRet f r S = tn (f r S) (kRet) := by
  show bnd (f r) _ S = _
  simp only [bnd, tn]
  cases f r S with
  | ok a S1 => rfl
  | ex x S => rfl
  | no => rfl
theorem ev_kRet (d : D) (S : Sto) : kRet d S = .ok (.rt d) S := rfl
def kEx (r : FL.Env) (d : D) (S : Sto) : R Fl := .ok (.nx r) S
theorem ev_expr (f : FEx) (r : FL.Env) (S : Sto) : sExpr f r S = tn (f r S) (kEx r) := by
  show bnd (f r) _ S = _
  simp only [bnd, tn]
  cases f r S with
  | ok a S1 => rfl
  | ex x S => rfl
  | no => rfl
theorem ev_kEx (r : FL.Env) (d : D) (S : Sto) : kEx r d S = .ok (.nx r) S := rfl
def kNx (r : FL.Env) (S : Sto) : R Fl := .ok (.nx r) S
def kAsg (g : FGx) (r : FL.Env) (d : D) (S : Sto) : R Fl := tn (g d r S) kNx
theorem ev_asg (f : FEx) (g : FGx) (r : FL.Env) (S : Sto) : sAsg f g r S = tn (f r S) (kAsg g r) := by
  show bnd (f r) _ S = _
  simp only [bnd, tn]
  cases f r S with
  | ok a S1 => simp only [kAsg, tn]; cases g a r S1 <;> rfl
  | ex x S => rfl
  | no => rfl
theorem ev_kAsg (g : FGx) (r : FL.Env) (d : D) (S : Sto) : kAsg g r d S = tn (g d r S) kNx := rfl
theorem ev_kNx (r : FL.Env) (S : Sto) : kNx r S = .ok (.nx r) S := rfl
def kSeq (g : FSx) : Fl → Sto → R Fl
  | .nx r, S => g r S
  | .rt d, S => .ok (.rt d) S
  | .bk r, S => .ok (.bk r) S
  | .ct r, S => .ok (.ct r) S
theorem ev_seq (f g : FSx) (r : FL.Env) (S : Sto) : sSeq f g r S = tn (f r S) (kSeq g) := by
  show bnd (f r) _ S = _
  simp only [bnd, tn]
  cases f r S with
  | ok a S1 => cases a <;> rfl
  | ex x S => rfl
  | no => rfl
theorem ev_kSeqN (g : FSx) (r : FL.Env) (S : Sto) : kSeq g (.nx r) S = g r S := rfl
theorem ev_kSeqR (g : FSx) (d : D) (S : Sto) : kSeq g (.rt d) S = .ok (.rt d) S := rfl
theorem ev_kSeqB (g : FSx) (r : FL.Env) (S : Sto) : kSeq g (.bk r) S = .ok (.bk r) S := rfl
theorem ev_kSeqC (g : FSx) (r : FL.Env) (S : Sto) : kSeq g (.ct r) S = .ok (.ct r) S := rfl
def kIfS (f g : FSx) (r : FL.Env) : Bool → Sto → R Fl
  | true, S => f r S
  | false, S => g r S
theorem ev_ifS (t : FTx) (f g : FSx) (r : FL.Env) (S : Sto) : sIf t f g r S = tn (t r S) (kIfS f g r) := by
  show bnd (t r) _ S = _
  simp only [bnd, tn]
  cases t r S with
  | ok a S1 => cases a <;> rfl
  | ex x S => rfl
  | no => rfl
theorem ev_kIfST (f g : FSx) (r : FL.Env) (S : Sto) : kIfS f g r true S = f r S := rfl
theorem ev_kIfSF (f g : FSx) (r : FL.Env) (S : Sto) : kIfS f g r false S = g r S := rfl
def kFor (b : FGx) (body : FSx) (r : FL.Env) (ds : List D) (S : Sto) : R Fl := loopD b body ds r S
theorem ev_for (fi : FAx) (b : FGx) (body : FSx) (r : FL.Env) (S : Sto) : sFor fi b body r S = tn (fi r S) (kFor b body r) := by
  show bnd (fi r) _ S = _
  simp only [bnd, tn]
  cases fi r S with
  | ok a S1 => rfl
  | ex x S => rfl
  | no => rfl
theorem ev_kFor (b : FGx) (body : FSx) (r : FL.Env) (ds : List D) (S : Sto) : kFor b body r ds S = loopD b body ds r S := rfl
theorem ev_next (r : FL.Env) (S : Sto) : sNext r S = .ok (.nx r) S := rfl
theorem ev_retN (r : FL.Env) (S : Sto) : sRetN r S = .ok (.rt .non) S := rfl
theorem ev_break (r : FL.Env) (S : Sto) : sBreak r S = .ok (.bk r) S := rfl
theorem ev_cont (r : FL.Env) (S : Sto) : sCont r S = .ok (.ct r) S := rfl
def kPar (i j : Nat) (r : FL.Env) : List D → Sto → R Fl
  | [d, e], S => .ok (.nx ((r.set i (some d)).set j (some e))) S
  | _, _ => .no
theorem ev_par (i j : Nat) (f : FAx) (r : FL.Env) (S : Sto) : sPar i j f r S = tn (f r S) (kPar i j r) := by
  show bnd (f r) _ S = _
  simp only [bnd, tn]
  cases f r S with
  | ok a S1 => match a with
    | [] => rfl
    | [_] => rfl
    | [_, _] => rfl
    | _ :: _ :: _ :: _ => rfl
  | ex x S => rfl
  | no => rfl
theorem ev_kPar (i j : Nat) (r : FL.Env) (d e : D) (S : Sto) : kPar i j r [d, e] S = .ok (.nx ((r.set i (some d)).set j (some e))) S := rfl
def kPar3 (i j l : Nat) (r : FL.Env) : List D → Sto → R Fl
  | [d, e, g], S => .ok (.nx (((r.set i (some d)).set j (some e)).set l (some g))) S
  | _, _ => .no
theorem ev_par3 (i j l : Nat) (f : FAx) (r : FL.Env) (S : Sto) : sPar3 i j l f r S = tn (f r S) (kPar3 i j l r) := by
  show bnd (f r) _ S = _
  simp only [bnd, tn]
  cases f r S with
  | ok a S1 => match a with
    | [] => rfl
    | [_] => rfl
    | [_, _] => rfl
    | [_, _, _] => rfl
    | _ :: _ :: _ :: _ :: _ => rfl
  | ex x S => rfl
  | no => rfl
theorem ev_kPar3 (i j l : Nat) (r : FL.Env) (d e g : D) (S : Sto) : kPar3 i j l r [d, e, g] S = .ok (.nx (((r.set i (some d)).set j (some e)).set l (some g))) S := rfl
theorem ev_gName (i : Nat) (d : D) (r : FL.Env) (S : Sto) : gName' i d r S = .ok (r.set i (some d)) S := rfl
theorem ev_gTup (n : Nat) (g : List D → FL.Env → M FL.Env) (ds : List D) (r : FL.Env) (S : Sto) : gTup' n g (.tup ds) r S = if ds.length = n then g ds r S else .no := by unfold gTup'; simp only; split <;> rfl
theorem ev_gsNil (r : FL.Env) (S : Sto) : gsNil [] r S = .ok r S := by unfold gsNil; rw [if_pos rfl]; rfl
def kGs (g : List D → FL.Env → M FL.Env) (ds : List D) (r : FL.Env) (S : Sto) : R FL.Env := g ds r S
theorem ev_gsCons (f : FGx) (g : List D → FL.Env → M FL.Env) (d : D) (ds : List D) (r : FL.Env) (S : Sto) : gsCons f g (d :: ds) r S = tn (f d r S) (kGs g ds) := by
  show bnd (f d r) _ S = _
  simp only [bnd, tn]
  cases f d r S <;> rfl
theorem ev_kGs (g : List D → FL.Env → M FL.Env) (ds : List D) (r : FL.Env) (S : Sto) : kGs g ds r S = g ds r S := rfl
def kSub4 (r : FL.Env) (_ : Unit) (S : Sto) : R FL.Env := .ok r S
def kSub3 (d : D) (r : FL.Env) (i : D) (n : Nat) (S : Sto) : R FL.Env := tn (setAt n (vw S i) d S) (kSub4 r)
def kSub2 (d : D) (r : FL.Env) (x i : D) (S : Sto) : R FL.Env := tn (oR x.ref? S) (kSub3 d r i)
def kSub (fi : FEx) (d : D) (r : FL.Env) (x : D) (S : Sto) : R FL.Env := tn (fi r S) (kSub2 d r x)
theorem ev_gSub (fo fi : FEx) (d : D) (r : FL.Env) (S : Sto) : gSub' fo fi d r S = tn (fo r S) (kSub fi d r) := by
  show bnd (fo r) _ S = _
  simp only [bnd, tn]
  cases fo r S with
  | ok x S1 =>
    simp only [kSub, tn]
    cases fi r S1 with
    | ok i S2 =>
      simp only [kSub2, oR, opt, tn]
      cases x.ref? with
      | none => rfl
      | some n => simp only [kSub3, tn]; cases setAt n (vw S2 i) d S2 <;> rfl
    | ex x S => rfl
    | no => rfl
  | ex x S => rfl
  | no => rfl
theorem ev_kSub (fi : FEx) (d : D) (r : FL.Env) (x : D) (S : Sto) : kSub fi d r x S = tn (fi r S) (kSub2 d r x) := rfl
theorem ev_kSub2 (d : D) (r : FL.Env) (x i : D) (S : Sto) : kSub2 d r x i S = tn (oR x.ref? S) (kSub3 d r i) := rfl
theorem ev_kSub3 (d : D) (r : FL.Env) (i : D) (n : Nat) (S : Sto) : kSub3 d r i n S = tn (setAt n (vw S i) d S) (kSub4 r) := rfl
theorem ev_kSub4 (r : FL.Env) (u : Unit) (S : Sto) : kSub4 r u S = .ok r S := rfl
def kMu4 (g : Sto → Nat → Ob → List D → Option (D × Ob)) (n : Nat) (T : String) (xs : List D) (S : Sto) : R D := mutAt T g n xs S
def kMu3 (g : Sto → Nat → Ob → List D → Option (D × Ob)) (fa : FAx) (r : FL.Env) (n : Nat) (T : String) (S : Sto) : R D := tn (fa r S) (kMu4 g n T)
def kMu2 (ts : List String) (g : Sto → Nat → Ob → List D → Option (D × Ob)) (fa : FAx) (r : FL.Env) (n : Nat) (S : Sto) : R D := tn (oR (obIn ts S[n]?) S) (kMu3 g fa r n)
def kMu (ts : List String) (g : Sto → Nat → Ob → List D → Option (D × Ob)) (fa : FAx) (r : FL.Env) (x : D) (S : Sto) : R D := tn (oR x.ref? S) (kMu2 ts g fa r)
theorem ev_mut (ts : List String) (g : Sto → Nat → Ob → List D → Option (D × Ob)) (fo : FEx) (fa : FAx) (r : FL.Env) (S : Sto) : eMut ts g fo fa r S = tn (fo r S) (kMu ts g fa r) := by
  show bnd (fo r) _ S = _
  simp only [bnd, tn]
  cases fo r S with
  | ok a S1 => simp only [kMu, oR, opt, tn]; cases a.ref? with
    | none => rfl
    | some n =>
      simp only [kMu2, oR, tn]
      cases obIn ts S1[n]? with
      | none => rfl
      | some T => simp only [kMu3, tn]; cases fa r S1 <;> rfl
  | ex x S => rfl
  | no => rfl
theorem ev_kMu (ts : List String) (g : Sto → Nat → Ob → List D → Option (D × Ob)) (fa : FAx) (r : FL.Env) (x : D) (S : Sto) : kMu ts g fa r x S = tn (oR x.ref? S) (kMu2 ts g fa r) := rfl
theorem ev_kMu2 (ts : List String) (g : Sto → Nat → Ob → List D → Option (D × Ob)) (fa : FAx) (r : FL.Env) (n : Nat) (S : Sto) : kMu2 ts g fa r n S = tn (oR (obIn ts S[n]?) S) (kMu3 g fa r n) := rfl
theorem ev_kMu3 (g : Sto → Nat → Ob → List D → Option (D × Ob)) (fa : FAx) (r : FL.Env) (n : Nat) (T : String) (S : Sto) : kMu3 g fa r n T S = tn (fa r S) (kMu4 g n T) := rfl
theorem ev_kMu4 (g : Sto → Nat → Ob → List D → Option (D × Ob)) (n : Nat) (T : String) (xs : List D) (S : Sto) : kMu4 g n T xs S = mutAt T g n xs S := rfl
def catR (S : Sto) : D → D → R D
  | .lst xs, .lst ys => if xs.length + ys.length ≤ 1000000 then .ok (.ref S.length) (S ++ [.lst (xs ++ ys)]) else .no
  | _, _ => .no
def kCat2 (x y : D) (S : Sto) : R D := catR S (vw S x) (vw S y)
def kCat (fb : FEx) (r : FL.Env) (x : D) (S : Sto) : R D := tn (fb r S) (kCat2 x)
theorem ev_catM (fa fb : FEx) (r : FL.Env) (S : Sto) : eCatM fa fb r S = tn (fa r S) (kCat fb r) := by
  show bnd (fa r) _ S = _
  simp only [bnd, tn]
  cases fa r S with
  | ok a S1 => simp only [kCat, tn]; cases fb r S1 with
    | ok y S2 => rfl
    | ex x S => rfl
    | no => rfl
  | ex x S => rfl
  | no => rfl
theorem ev_kCat (fb : FEx) (r : FL.Env) (x : D) (S : Sto) : kCat fb r x S = tn (fb r S) (kCat2 x) := rfl
theorem ev_kCat2 (x y : D) (S : Sto) : kCat2 x y S = catR S (vw S x) (vw S y) := rfl
theorem ev_catR (S : Sto) (xs ys : List D) : catR S (.lst xs) (.lst ys) = if xs.length + ys.length ≤ 1000000 then .ok (.ref S.length) (S ++ [.lst (xs ++ ys)]) else .no := rfl
theorem vw_non (S : Sto)  : vw S (.non ) = .non  := rfl
theorem vw_bl (S : Sto) (b : Bool) : vw S (.bl b) = .bl b := rfl
theorem vw_int (S : Sto) (i : Int) : vw S (.int i) = .int i := rfl
theorem vw_str (S : Sto) (x : Str) : vw S (.str x) = .str x := rfl
theorem vw_lst (S : Sto) (xs : List D) : vw S (.lst xs) = .lst xs := rfl
theorem vw_tup (S : Sto) (xs : List D) : vw S (.tup xs) = .tup xs := rfl
theorem vw_dct (S : Sto) (xs : List (Key × D)) : vw S (.dct xs) = .dct xs := rfl
theorem vw_ref (S : Sto) (n : Nat) : vw S (.ref n) = vwO n S[n]? := rfl
theorem vwO_lst (n : Nat) (xs : List D) : vwO n (some (.lst xs)) = .lst xs := rfl
theorem vwO_dct (n : Nat) (xs : List (Key × D)) : vwO n (some (.dct xs)) = .dct xs := rfl
theorem tru_bl (b : Bool) : truD (.bl b) = some b := rfl
theorem tru_int (i : Int) : truD (.int i) = some (i != 0) := rfl
theorem tru_lst (xs : List D) : truD (.lst xs) = some (!xs.isEmpty) := rfl
theorem tru_tup (xs : List D) : truD (.tup xs) = some (!xs.isEmpty) := rfl
theorem tru_non : truD .non = some false := rfl
theorem add_int (i j : Int) : addD (.int i) (.int j) = some (.int (i + j)) := rfl
theorem add_lst (xs ys : List D) : addD (.lst xs) (.lst ys) = cap (xs.length + ys.length) (.lst (xs ++ ys)) := by simp only [addD, alt, on2, D.int?, D.str?, D.lst?, D.tup?]; cases cap (xs.length + ys.length) (D.lst (xs ++ ys)) <;> rfl
theorem add_tup (xs ys : List D) : addD (.tup xs) (.tup ys) = cap (xs.length + ys.length) (.tup (xs ++ ys)) := by simp only [addD, alt, on2, D.int?, D.str?, D.lst?, D.tup?]
theorem add_str (x y : Str) : addD (.str x) (.str y) = cap (x.length + y.length) (.str (x ++ y)) := by simp only [addD, alt, on2, D.int?, D.str?, D.lst?, D.tup?]; cases cap (x.length + y.length) (D.str (x ++ y)) <;> rfl
theorem sub_int (i j : Int) : subD (.int i) (.int j) = some (.int (i - j)) := rfl
theorem neg_int (i : Int) : negD (.int i) = some (.int (-i)) := rfl
theorem gt_int (i j : Int) : gtD (.int i) (.int j) = some (.bl (decide (j < i))) := rfl
theorem ge_int (i j : Int) : geD (.int i) (.int j) = some (.bl (decide (j ≤ i))) := rfl
theorem lt_int (i j : Int) : ltD (.int i) (.int j) = some (.bl (decide (i < j))) := rfl
theorem le_int (i j : Int) : leD (.int i) (.int j) = some (.bl (decide (i ≤ j))) := rfl
theorem len_lst (xs : List D) : lenD [.lst xs] = some (.int xs.length) := rfl
theorem len_tup (xs : List D) : lenD [.tup xs] = some (.int xs.length) := rfl
theorem len_dct (xs : List (Key × D)) : lenD [.dct xs] = some (.int xs.length) := rfl
theorem len_str (x : Str) : lenD [.str x] = cap x.length (.int x.length) := by simp only [lenD, one, alt, on1, D.lst?, D.tup?, D.str?, D.dct?]; cases cap x.length (D.int x.length) <;> rfl
theorem int_int (i : Int) : FL.intD [.int i] = some (.int i) := rfl
theorem tuple_lst (xs : List D) : tupleD [.lst xs] = some (.tup xs) := rfl
theorem tuple_tup (xs : List D) : tupleD [.tup xs] = some (.tup xs) := rfl
theorem list_lst (xs : List D) : listD [.lst xs] = some (.lst xs) := rfl
theorem list_tup (xs : List D) : listD [.tup xs] = some (.lst xs) := rfl
theorem sl_lst (xs : List D) (lo hi : Option Int) : slD (.lst xs) lo hi = some (.lst (cutL xs lo hi)) := rfl
theorem sl_tup (xs : List D) (lo hi : Option Int) : slD (.tup xs) lo hi = some (.tup (cutL xs lo hi)) := rfl
theorem is_non (d : D) : isND d .non = some (.bl d.non?) := rfl
theorem isnt_non (d : D) : isNND d .non = some (.bl (!d.non?)) := rfl
theorem non_bl (b : Bool) : D.non? (.bl b) = false := rfl
theorem non_int (i : Int) : D.non? (.int i) = false := rfl
theorem non_str (x : Str) : D.non? (.str x) = false := rfl
theorem non_lst (xs : List D) : D.non? (.lst xs) = false := rfl
theorem non_tup (xs : List D) : D.non? (.tup xs) = false := rfl
theorem non_non : D.non? .non = true := rfl
theorem int_int? (i : Int) : D.int? (.int i) = some i := rfl
theorem ref_ref? (n : Nat) : D.ref? (.ref n) = some n := rfl
theorem alt_tup (xs : List D) : alt (D.tup? (.tup xs)) (D.lst? (.tup xs)) = some xs := rfl
theorem alt_lst (xs : List D) : alt (D.tup? (.lst xs)) (D.lst? (.lst xs)) = some xs := rfl
theorem isi_int_non  : isiD .int (.non ) = some (.bl false) := rfl
theorem isi_int_bl (b : Bool) : isiD .int (.bl b) = some (.bl true) := rfl
theorem isi_int_int (i : Int) : isiD .int (.int i) = some (.bl true) := rfl
theorem isi_int_str (x : Str) : isiD .int (.str x) = some (.bl false) := rfl
theorem isi_int_lst (xs : List D) : isiD .int (.lst xs) = some (.bl false) := rfl
theorem isi_int_tup (xs : List D) : isiD .int (.tup xs) = some (.bl false) := rfl
theorem isi_bool_non  : isiD .bool (.non ) = some (.bl false) := rfl
theorem isi_bool_bl (b : Bool) : isiD .bool (.bl b) = some (.bl true) := rfl
theorem isi_bool_int (i : Int) : isiD .bool (.int i) = some (.bl false) := rfl
theorem isi_bool_str (x : Str) : isiD .bool (.str x) = some (.bl false) := rfl
theorem isi_bool_lst (xs : List D) : isiD .bool (.lst xs) = some (.bl false) := rfl
theorem isi_bool_tup (xs : List D) : isiD .bool (.tup xs) = some (.bl false) := rfl
theorem isi_str_non  : isiD .str (.non ) = some (.bl false) := rfl
theorem isi_str_bl (b : Bool) : isiD .str (.bl b) = some (.bl false) := rfl
theorem isi_str_int (i : Int) : isiD .str (.int i) = some (.bl false) := rfl
theorem isi_str_str (x : Str) : isiD .str (.str x) = some (.bl true) := rfl
theorem isi_str_lst (xs : List D) : isiD .str (.lst xs) = some (.bl false) := rfl
theorem isi_str_tup (xs : List D) : isiD .str (.tup xs) = some (.bl false) := rfl
theorem isi_tuple_non  : isiD .tuple (.non ) = some (.bl false) := rfl
theorem isi_tuple_bl (b : Bool) : isiD .tuple (.bl b) = some (.bl false) := rfl
theorem isi_tuple_int (i : Int) : isiD .tuple (.int i) = some (.bl false) := rfl
theorem isi_tuple_str (x : Str) : isiD .tuple (.str x) = some (.bl false) := rfl
theorem isi_tuple_lst (xs : List D) : isiD .tuple (.lst xs) = some (.bl false) := rfl
theorem isi_tuple_tup (xs : List D) : isiD .tuple (.tup xs) = some (.bl true) := rfl
theorem isi_list_non  : isiD .list (.non ) = some (.bl false) := rfl
theorem isi_list_bl (b : Bool) : isiD .list (.bl b) = some (.bl false) := rfl
theorem isi_list_int (i : Int) : isiD .list (.int i) = some (.bl false) := rfl
theorem isi_list_str (x : Str) : isiD .list (.str x) = some (.bl false) := rfl
theorem isi_list_lst (xs : List D) : isiD .list (.lst xs) = some (.bl true) := rfl
theorem isi_list_tup (xs : List D) : isiD .list (.tup xs) = some (.bl false) := rfl
theorem isi_dict_non  : isiD .dict (.non ) = some (.bl false) := rfl
theorem isi_dict_bl (b : Bool) : isiD .dict (.bl b) = some (.bl false) := rfl
theorem isi_dict_int (i : Int) : isiD .dict (.int i) = some (.bl false) := rfl
theorem isi_dict_str (x : Str) : isiD .dict (.str x) = some (.bl false) := rfl
theorem isi_dict_lst (xs : List D) : isiD .dict (.lst xs) = some (.bl false) := rfl
theorem isi_dict_tup (xs : List D) : isiD .dict (.tup xs) = some (.bl false) := rfl
theorem tyIn_lst2 (xs : List D) : tyIn ["list", "tuple"] (.lst xs) = some "list" := by unfold tyIn tyD; simp
theorem tyD_lst (xs : List D) : tyD (.lst xs) = some "list" := rfl
theorem tyIn_tup2 (xs : List D) : tyIn ["list", "tuple"] (.tup xs) = some "tuple" := by unfold tyIn tyD; simp
theorem tyD_tup (xs : List D) : tyD (.tup xs) = some "tuple" := rfl
theorem tyIn_str (x : Str) : tyIn ["str"] (.str x) = some "str" := by unfold tyIn tyD; simp
theorem tyD_str (x : Str) : tyD (.str x) = some "str" := rfl
theorem tyIn_dct (xs : List (Key × D)) : tyIn ["dict"] (.dct xs) = some "dict" := by unfold tyIn tyD; simp
theorem tyD_dct (xs : List (Key × D)) : tyD (.dct xs) = some "dict" := rfl
def cStep (b : FGx) (t : FTx) (e : FEx) (r0 : FL.Env) (d : D) : M (Option D) := bnd (noEx (b d r0)) fun r1 => bnd (noEx (t r1)) fun k => if k = true then bnd (noEx (e r1)) fun y => FL.ret (some y) else FL.ret none
def kSome (y : D) (S : Sto) : R (Option D) := .ok (some y) S
def kC2 (e : FEx) (r1 : FL.Env) : Bool → Sto → R (Option D)
  | true, S => tn (nx (e r1 S)) kSome
  | false, S => .ok none S
def kC (t : FTx) (e : FEx) (r1 : FL.Env) (S : Sto) : R (Option D) := tn (nx (t r1 S)) (kC2 e r1)
theorem noEx_nx {α : Type} (m : M α) (S : Sto) : noEx m S = nx (m S) := by unfold noEx nx; cases m S <;> rfl
theorem ev_cStep (b : FGx) (t : FTx) (e : FEx) (r0 : FL.Env) (d : D) (S : Sto) : cStep b t e r0 d S = tn (nx (b d r0 S)) (kC t e) := by
  unfold cStep
  simp only [bnd, noEx_nx, tn]
  cases nx (b d r0 S) with
  | ok r1 S1 =>
    simp only [kC, tn]
    cases nx (t r1 S1) with
    | ok k S2 =>
      cases k with
      | false => rfl
      | true =>
        simp only [kC2, tn, if_true, bnd, noEx_nx]
        cases nx (e r1 S2) <;> rfl
    | ex x S => rfl
    | no => rfl
  | ex x S => rfl
  | no => rfl
theorem ev_kC (t : FTx) (e : FEx) (r1 : FL.Env) (S : Sto) : kC t e r1 S = tn (nx (t r1 S)) (kC2 e r1) := rfl
theorem ev_kC2T (e : FEx) (r1 : FL.Env) (S : Sto) : kC2 e r1 true S = tn (nx (e r1 S)) kSome := rfl
theorem ev_kC2F (e : FEx) (r1 : FL.Env) (S : Sto) : kC2 e r1 false S = .ok none S := rfl
theorem ev_kSome (y : D) (S : Sto) : kSome y S = .ok (some y) S := rfl
def cStep2 (b : FGx) (t : FTx) (fi1 : FAx) (vs1 : List Nat) (b1 : FGx) (t1 : FTx) (e : FEx) (r0 : FL.Env) (d : D) (acc : List D) : M (List D) := bnd (noEx (b d r0)) fun r1 => bnd (noEx (t r1)) fun k => if k = true then bnd (noEx (fi1 r1)) fun es => noEx (compD b1 t1 e (wipeE r1 vs1) es acc) else FL.ret acc
def kD3 (vs1 : List Nat) (b1 : FGx) (t1 : FTx) (e : FEx) (r1 : FL.Env) (acc es : List D) (S : Sto) : R (List D) := nx (compD b1 t1 e (wipeE r1 vs1) es acc S)
def kD2 (fi1 : FAx) (vs1 : List Nat) (b1 : FGx) (t1 : FTx) (e : FEx) (acc : List D) (r1 : FL.Env) : Bool → Sto → R (List D)
  | true, S => tn (nx (fi1 r1 S)) (kD3 vs1 b1 t1 e r1 acc)
  | false, S => .ok acc S
def kD (t : FTx) (fi1 : FAx) (vs1 : List Nat) (b1 : FGx) (t1 : FTx) (e : FEx) (acc : List D) (r1 : FL.Env) (S : Sto) : R (List D) := tn (nx (t r1 S)) (kD2 fi1 vs1 b1 t1 e acc r1)
theorem ev_cStep2 (b : FGx) (t : FTx) (fi1 : FAx) (vs1 : List Nat) (b1 : FGx) (t1 : FTx) (e : FEx) (r0 : FL.Env) (d : D) (acc : List D) (S : Sto) : cStep2 b t fi1 vs1 b1 t1 e r0 d acc S = tn (nx (b d r0 S)) (kD t fi1 vs1 b1 t1 e acc) := by
  unfold cStep2
  simp only [bnd, noEx_nx, tn]
  cases nx (b d r0 S) with
  | ok r1 S1 =>
    simp only [kD, tn]
    cases nx (t r1 S1) with
    | ok k S2 =>
      cases k with
      | false => rfl
      | true =>
        simp only [kD2, tn, if_true, bnd, noEx_nx, kD3]
        all_goals (cases nx (fi1 r1 S2) <;> rfl)
    | ex x S => rfl
    | no => rfl
  | ex x S => rfl
  | no => rfl
theorem ev_kD (t : FTx) (fi1 : FAx) (vs1 : List Nat) (b1 : FGx) (t1 : FTx) (e : FEx) (acc : List D) (r1 : FL.Env) (S : Sto) : kD t fi1 vs1 b1 t1 e acc r1 S = tn (nx (t r1 S)) (kD2 fi1 vs1 b1 t1 e acc r1) := rfl
theorem ev_kD2T (fi1 : FAx) (vs1 : List Nat) (b1 : FGx) (t1 : FTx) (e : FEx) (acc : List D) (r1 : FL.Env) (S : Sto) : kD2 fi1 vs1 b1 t1 e acc r1 true S = tn (nx (fi1 r1 S)) (kD3 vs1 b1 t1 e r1 acc) := rfl
theorem ev_kD2F (fi1 : FAx) (vs1 : List Nat) (b1 : FGx) (t1 : FTx) (e : FEx) (acc : List D) (r1 : FL.Env) (S : Sto) : kD2 fi1 vs1 b1 t1 e acc r1 false S = .ok acc S := rfl
theorem ev_kD3 (vs1 : List Nat) (b1 : FGx) (t1 : FTx) (e : FEx) (r1 : FL.Env) (acc es : List D) (S : Sto) : kD3 vs1 b1 t1 e r1 acc es S = nx (compD b1 t1 e (wipeE r1 vs1) es acc S) := rfl
def lStep (b : FGx) (body : FSx) (d : D) (r : FL.Env) : M Fl := bnd (b d r) fun r1 => body r1
def kL (body : FSx) (r1 : FL.Env) (S : Sto) : R Fl := body r1 S
theorem ev_lStep (b : FGx) (body : FSx) (d : D) (r : FL.Env) (S : Sto) : lStep b body d r S = tn (b d r S) (kL body) := by
  show bnd (b d r) _ S = _
  simp only [bnd, tn]
  cases b d r S <;> rfl
theorem ev_kL (body : FSx) (r1 : FL.Env) (S : Sto) : kL body r1 S = body r1 S := rfl
end SS
end

section
set_option Elab.async false
set_option linter.all false
set_option maxRecDepth 100000
set_option autoImplicit false
set_option maxHeartbeats 2000000
namespace SS
open PySem PySem.Spec PyProof.Rows L2 FL

/-! ## the end of a def -/
theorem cut_same (S : Sto) (d : D) : cutR S d S = .ok d S := by unfold cutR; rw [if_pos rfl]
theorem cut_len {S S' : Sto} (d : D) (h : S'.length = S.length) : cutR S d S' = .ok d S' := by unfold cutR; rw [if_pos h]
theorem kept_app (S X : Sto) : Kept S (S ++ X) := fun i o hi e => by
  rw [List.getElem?_append_left hi] at e
  exact .inl e
theorem handed_lt {L : Nat} {S' : Sto} {d : D} (h : d.lt L = true) : handed L S' d = some d := by unfold handed; rw [if_pos h]
theorem cut_app (S X : Sto) (d : D) (h : d.lt S.length = true) : cutR S d (S ++ X) = .ok d S := by
  unfold cutR
  by_cases hl : (S ++ X).length = S.length
  · have : X = [] := by
      rw [List.length_append] at hl
      exact List.length_eq_zero_iff.mp (by omega)
    subst this
    rw [if_pos hl, List.append_nil]
  · rw [if_neg hl, if_pos (kept_app S X), handed_lt h]
    simp
theorem cut_list (S X : Sto) (xs : List D) (h : D.ltAll S.length xs = true) : cutR S (.ref S.length) (S ++ .lst xs :: X) = .ok (.lst xs) S := by
  unfold cutR
  rw [if_neg (by simp), if_pos (kept_app S _)]
  have : handed S.length (S ++ .lst xs :: X) (.ref S.length) = some (.lst xs) := by
    unfold handed
    rw [if_neg (by simp [D.lt])]
    simp [D.ref?, h]
  rw [this]
  simp
theorem done_nx (S S' : Sto) (r : FL.Env) (h : S'.length = S.length) : doneR false S (.ok (.nx r) S') = .ok .non S' := by
  show cutR S .non S' = _
  exact cut_len _ h
theorem done_rt (S S' : Sto) (d : D) (h : S'.length = S.length) : doneR false S (.ok (.rt d) S') = .ok d S' := by
  show cutR S d S' = _
  exact cut_len _ h
theorem done_eq (S : Sto) (d : D) : doneR false S (.ok (.rt d) S) = .ok d S := done_rt S S d rfl
theorem few_ok {α : Type} {xs : List α} (h : xs.length ≤ 1000000) : few xs = some xs := by unfold few; rw [if_pos h]
theorem cap_ok {α : Type} {n : Nat} {a : α} (h : n ≤ 1000000) : cap n a = some a := by unfold cap; rw [if_pos h]

theorem modD_int {i j : Int} (h : 0 < j) : modD (.int i) (.int j) = some (.int (i % j)) := by simp only [modD, ii, on2, D.int?, guard', decide_eq_true h, if_true]
theorem fdivD_int {i j : Int} (h : 0 < j) (h2 : j < 1073741824) : fdivD (.int i) (.int j) = some (.int (i / j)) := by simp only [fdivD, ii, on2, D.int?, guard', decide_eq_true (⟨h, h2⟩ : 0 < j ∧ j < 1073741824), if_true]
/-! ## comparing -/
theorem eqD_str (x y : Str) : eqD (.str x) (.str y) = some (.bl (x == y)) := by simp [eqD, pyD, toPy, PyData.depth, PyData.eqv]
theorem eqD_int (x y : Int) : eqD (.int x) (.int y) = some (.bl (x == y)) := by simp [eqD, pyD, toPy, PyData.depth, PyData.eqv]
theorem eqD_bl (x y : Bool) : eqD (.bl x) (.bl y) = some (.bl (x == y)) := by simp [eqD, pyD, toPy, PyData.depth, PyData.eqv]
theorem neD_str (x y : Str) : neD (.str x) (.str y) = some (.bl (!(x == y))) := by simp [neD, pyD, toPy, PyData.depth, PyData.eqv]
theorem neD_int (x y : Int) : neD (.int x) (.int y) = some (.bl (!(x == y))) := by simp [neD, pyD, toPy, PyData.depth, PyData.eqv]

/-! ## plain data without truth values -/
mutual
def nb : D → Bool
  | .non => true
  | .int _ => true
  | .str _ => true
  | .lst xs => nbs xs
  | .tup xs => nbs xs
  | _ => false
def nbs : List D → Bool
  | [] => true
  | d :: ds => nb d && nbs ds
end
mutual
def dep : D → Nat
  | .lst xs => deps xs + 1
  | .tup xs => deps xs + 1
  | _ => 0
def deps : List D → Nat
  | [] => 0
  | d :: ds => max (dep d) (deps ds)
end
mutual
def py : D → PyData
  | .non => .none
  | .int i => .int i
  | .str x => .str x
  | .lst xs => .list (pys xs)
  | .tup xs => .tuple (pys xs)
  | .bl b => .bool b
  | _ => .none
def pys : List D → List PyData
  | [] => []
  | d :: ds => py d :: pys ds
end
mutual
theorem toPy_nb : ∀ d : D, nb d = true → toPy d = some (py d)
  | .non, _ => rfl
  | .int _, _ => rfl
  | .str _, _ => rfl
  | .lst xs, h => by simp only [nb] at h; simp only [toPy, py, toPys_nb xs h, Option.map_some]
  | .tup xs, h => by simp only [nb] at h; simp only [toPy, py, toPys_nb xs h, Option.map_some]
  | .bl _, h => by simp [nb] at h
  | .dct _, h => by simp [nb] at h
  | .ref _, h => by simp [nb] at h
theorem toPys_nb : ∀ ds : List D, nbs ds = true → toPys ds = some (pys ds)
  | [], _ => rfl
  | d :: ds, h => by
    obtain ⟨h1, h2⟩ := Bool.and_eq_true_iff.mp (show (nb d && nbs ds) = true from h)
    simp only [toPys, pys, toPy_nb d h1, toPys_nb ds h2]
end
mutual
theorem dep_py : ∀ d : D, nb d = true → (py d).depth = dep d
  | .non, _ => rfl
  | .int _, _ => rfl
  | .str _, _ => rfl
  | .lst xs, h => by simp only [nb] at h; simp only [py, PyData.depth, dep, deps_pys xs h]
  | .tup xs, h => by simp only [nb] at h; simp only [py, PyData.depth, dep, deps_pys xs h]
  | .bl _, h => by simp [nb] at h
  | .dct _, h => by simp [nb] at h
  | .ref _, h => by simp [nb] at h
theorem deps_pys : ∀ ds : List D, nbs ds = true → PyData.depthAll (pys ds) = deps ds
  | [], _ => rfl
  | d :: ds, h => by
    obtain ⟨h1, h2⟩ := Bool.and_eq_true_iff.mp (show (nb d && nbs ds) = true from h)
    simp only [pys, PyData.depthAll, deps, dep_py d h1, deps_pys ds h2]
end
theorem pyD_nb {d : D} (h : nb d = true) (h2 : dep d ≤ 64) : pyD d = some (py d) := by
  unfold pyD
  rw [toPy_nb d h]
  simp only [Option.bind_some, dep_py d h]
  rw [if_pos h2]
mutual
theorem eqv_nb : ∀ (d e : D), nb d = true → nb e = true → ((py d).eqv (py e) = true ↔ d = e)
  | .non, e, _, h => by cases e <;> simp_all [nb, py, PyData.eqv]
  | .int _, e, _, h => by cases e <;> simp_all [nb, py, PyData.eqv]
  | .str _, e, _, h => by cases e <;> simp_all [nb, py, PyData.eqv]
  | .lst xs, e, h1, h => by
    cases e with
    | lst ys =>
      simp only [nb] at h1 h
      simp only [py, PyData.eqv, D.lst.injEq]
      exact eqvs_nb xs ys h1 h
    | _ => simp_all [nb, py, PyData.eqv]
  | .tup xs, e, h1, h => by
    cases e with
    | tup ys =>
      simp only [nb] at h1 h
      simp only [py, PyData.eqv, D.tup.injEq]
      exact eqvs_nb xs ys h1 h
    | _ => simp_all [nb, py, PyData.eqv]
  | .bl _, _, h, _ => by simp [nb] at h
  | .dct _, _, h, _ => by simp [nb] at h
  | .ref _, _, h, _ => by simp [nb] at h
theorem eqvs_nb : ∀ (ds es : List D), nbs ds = true → nbs es = true → (PyData.eqvAll (pys ds) (pys es) = true ↔ ds = es)
  | [], [], _, _ => by simp [pys, PyData.eqvAll]
  | [], _ :: _, _, _ => by simp [pys, PyData.eqvAll]
  | _ :: _, [], _, _ => by simp [pys, PyData.eqvAll]
  | d :: ds, e :: es, h1, h2 => by
    obtain ⟨a1, a2⟩ := Bool.and_eq_true_iff.mp (show (nb d && nbs ds) = true from h1)
    obtain ⟨b1, b2⟩ := Bool.and_eq_true_iff.mp (show (nb e && nbs es) = true from h2)
    simp only [pys, PyData.eqvAll, Bool.and_eq_true, List.cons.injEq, eqv_nb d e a1 b1, eqvs_nb ds es a2 b2]
end
/-- plain, and not deep -/
structure Pn (d : D) : Prop where
  nb : nb d = true
  dp : dep d ≤ 64
theorem pyD_pn {d : D} (h : Pn d) : pyD d = some (py d) := pyD_nb h.nb h.dp
open Classical in
theorem eqD_pn {d e : D} (h1 : Pn d) (h2 : Pn e) : eqD d e = some (.bl (decide (d = e))) := by
  unfold eqD
  rw [pyD_pn h1, pyD_pn h2]
  simp only [Option.some.injEq, D.bl.injEq]
  by_cases h : d = e
  · rw [decide_eq_true h]; exact (eqv_nb d e h1.nb h2.nb).mpr h
  · rw [decide_eq_false h, ← Bool.not_eq_true]
    exact fun z => h ((eqv_nb d e h1.nb h2.nb).mp z)
open Classical in
theorem neD_pn {d e : D} (h1 : Pn d) (h2 : Pn e) : neD d e = some (.bl (!decide (d = e))) := by
  have := eqD_pn h1 h2
  unfold eqD at this
  unfold neD
  rw [pyD_pn h1, pyD_pn h2] at this ⊢
  simp only [Option.some.injEq, D.bl.injEq] at this ⊢
  rw [this]
theorem mem_pys {e : D} (h : nb e = true) : ∀ ds : List D, nbs ds = true → ((pys ds).any (fun z => PyData.eqv z (py e)) = true ↔ e ∈ ds)
  | [], _ => by simp [pys]
  | d :: ds, h1 => by
    obtain ⟨a1, a2⟩ := Bool.and_eq_true_iff.mp (show (nb d && nbs ds) = true from h1)
    simp only [pys, List.any_cons, Bool.or_eq_true, List.mem_cons, mem_pys h ds a2, eqv_nb d e a1 h]
    constructor
    · rintro (z | z)
      · exact .inl z.symm
      · exact .inr z
    · rintro (z | z)
      · exact .inl z.symm
      · exact .inr z
theorem seq_nb {xs : List D} {d : D} (hd : d = .lst xs ∨ d = .tup xs) (h : Pn d) : nbs xs = true ∧ (pyD d).bind seqP = some (pys xs) := by
  rw [pyD_pn h]
  have := h.nb
  rcases hd with rfl | rfl
  · exact ⟨by simpa [SS.nb] using this, rfl⟩
  · exact ⟨by simpa [SS.nb] using this, rfl⟩
open Classical in
theorem inD_pn {e d : D} {xs : List D} (hd : d = .lst xs ∨ d = .tup xs) (h : Pn d) (he : Pn e) : inD e d = some (.bl (decide (e ∈ xs))) := by
  obtain ⟨h1, h2⟩ := seq_nb hd h
  unfold inD inB inSeq
  rw [pyD_pn he, h2]
  simp only [alt, Option.map_some, Option.some.injEq, D.bl.injEq]
  by_cases q : e ∈ xs
  · rw [decide_eq_true q]; exact (mem_pys he.nb xs h1).mpr q
  · rw [decide_eq_false q, ← Bool.not_eq_true]
    exact fun z => q ((mem_pys he.nb xs h1).mp z)
open Classical in
theorem notInD_pn {e d : D} {xs : List D} (hd : d = .lst xs ∨ d = .tup xs) (h : Pn d) (he : Pn e) : notInD e d = some (.bl (!decide (e ∈ xs))) := by
  have := inD_pn hd h he
  unfold inD at this
  unfold notInD
  cases hq : inB e d with
  | none => rw [hq] at this; cases this
  | some b => rw [hq] at this; simp only [Option.map_some, Option.some.injEq, D.bl.injEq] at this ⊢; rw [this]
theorem idx_pys {e : D} (h : nb e = true) : ∀ (ds : List D) (i : Nat), nbs ds = true → ds[i]? = some e → (∀ j, j < i → ds[j]? ≠ some e) → idxP (py e) (pys ds) = some i
  | [], i, _, q, _ => by simp at q
  | d :: ds, i, h1, q, hn => by
    obtain ⟨a1, a2⟩ := Bool.and_eq_true_iff.mp (show (nb d && nbs ds) = true from h1)
    unfold pys idxP
    cases i with
    | zero =>
      have : d = e := by simpa using q
      rw [if_pos ((eqv_nb d e a1 h).mpr this)]
    | succ i =>
      have hd : d ≠ e := fun z => hn 0 (by omega) (by simp [z])
      rw [if_neg fun z => hd ((eqv_nb d e a1 h).mp z), idx_pys h ds i a2 (by simpa using q) fun j hj z => hn (j + 1) (by omega) (by simpa using z)]
      rfl
theorem indexD_pn {e d : D} {xs : List D} {i : Nat} (hd : d = .lst xs ∨ d = .tup xs) (h : Pn d) (he : Pn e) (q : xs[i]? = some e) (hn : ∀ j, j < i → xs[j]? ≠ some e) : indexD d [e] = some (.int i) := by
  obtain ⟨h1, h2⟩ := seq_nb hd h
  unfold indexD
  simp only [one]
  rw [pyD_pn he]
  cases hp : pyD d with
  | none => rw [hp] at h2; cases h2
  | some p =>
    rw [hp] at h2
    simp only [Option.bind_some] at h2
    simp only [h2, Option.bind_some, idx_pys he.nb xs i h1 q hn, Option.map_some]
theorem pn_int (i : Int) : Pn (.int i) := ⟨rfl, by simp [dep]⟩
theorem pn_str (x : Str) : Pn (.str x) := ⟨rfl, by simp [dep]⟩
theorem nbs_iff : ∀ ds : List D, nbs ds = true ↔ ∀ d ∈ ds, nb d = true
  | [] => by simp [nbs]
  | d :: ds => by simp [nbs, nbs_iff ds]
theorem deps_le {n : Nat} : ∀ ds : List D, deps ds ≤ n ↔ ∀ d ∈ ds, dep d ≤ n
  | [] => by simp [deps]
  | d :: ds => by simp only [deps, List.mem_cons, forall_eq_or_imp, ← deps_le ds]; omega
/-- plain, of depth at most n -/
def Pk (n : Nat) (d : D) : Prop := nb d = true ∧ dep d ≤ n
theorem Pk.pn {n : Nat} {d : D} (h : Pk n d) (hn : n ≤ 64) : Pn d := ⟨h.1, Nat.le_trans h.2 hn⟩
theorem Pk.mono {n m : Nat} {d : D} (h : Pk n d) (hn : n ≤ m) : Pk m d := ⟨h.1, Nat.le_trans h.2 hn⟩
theorem pk_int (n : Nat) (i : Int) : Pk n (.int i) := ⟨rfl, by simp [dep]⟩
theorem pk_str (n : Nat) (x : Str) : Pk n (.str x) := ⟨rfl, by simp [dep]⟩
theorem pk_tup {n : Nat} {xs : List D} (h : ∀ d ∈ xs, Pk n d) : Pk (n + 1) (.tup xs) :=
  ⟨by simp only [nb]; exact (nbs_iff xs).mpr fun d m => (h d m).1, by simp only [dep]; exact Nat.succ_le_succ ((deps_le xs).mpr fun d m => (h d m).2)⟩
theorem pk_lst {n : Nat} {xs : List D} (h : ∀ d ∈ xs, Pk n d) : Pk (n + 1) (.lst xs) :=
  ⟨by simp only [nb]; exact (nbs_iff xs).mpr fun d m => (h d m).1, by simp only [dep]; exact Nat.succ_le_succ ((deps_le xs).mpr fun d m => (h d m).2)⟩
mutual
theorem nb_lt (L : Nat) : ∀ d : D, nb d = true → d.lt L = true
  | .non, _ => rfl
  | .int _, _ => rfl
  | .str _, _ => rfl
  | .lst xs, h => by simp only [nb] at h; simp only [D.lt, nbs_lt L xs h]
  | .tup xs, h => by simp only [nb] at h; simp only [D.lt, nbs_lt L xs h]
  | .bl _, h => by simp [nb] at h
  | .dct _, h => by simp [nb] at h
  | .ref _, h => by simp [nb] at h
theorem nbs_lt (L : Nat) : ∀ ds : List D, nbs ds = true → D.ltAll L ds = true
  | [], _ => rfl
  | d :: ds, h => by
    obtain ⟨h1, h2⟩ := Bool.and_eq_true_iff.mp (show (nb d && nbs ds) = true from h)
    simp only [D.ltAll, nb_lt L d h1, nbs_lt L ds h2, Bool.and_self]
end
theorem pn_vw {S : Sto} {d : D} (h : nb d = true) : vw S d = d := by cases d <;> first | rfl | (simp [nb] at h)
end SS
end

section
set_option Elab.async false
set_option linter.all false
set_option maxRecDepth 100000
set_option autoImplicit false
set_option maxHeartbeats 2000000
namespace SS
open PySem PySem.Spec PyProof.Rows L2 FL

/-! ## comprehensions by their turns -/
theorem bnd_assoc {α β γ : Type} (m : M α) (k : α → M β) (k' : β → M γ) : bnd (bnd m k) k' = bnd m (fun a => bnd (k a) k') := by
  funext S
  simp only [bnd]
  cases m S <;> rfl
theorem bnd_ret {α β : Type} (a : α) (k : α → M β) : bnd (FL.ret a) k = k a := rfl
theorem compD_cons (b : FGx) (t : FTx) (e : FEx) (r0 : FL.Env) (d : D) (ds acc : List D) (S : Sto) :
    compD b t e r0 (d :: ds) acc S = bnd (cStep b t e r0 d) (fun o => match o with
      | some y => if acc.length < 1000000 then compD b t e r0 ds (acc ++ [y]) else fun _ => .no
      | none => compD b t e r0 ds acc) S := by
  unfold cStep
  rw [bnd_assoc]
  refine congrFun (congrArg (bnd (noEx (b d r0))) (funext fun r1 => ?_)) S
  rw [bnd_assoc]
  refine congrArg (bnd (noEx (t r1))) (funext fun k => ?_)
  cases k with
  | false => rfl
  | true =>
    rw [if_pos rfl, if_pos rfl, bnd_assoc]
    rfl
theorem compD_pure {α : Type} (f : α → D) (g : α → Option D) {b : FGx} {t : FTx} {e : FEx} {r0 : FL.Env} {S : Sto} : ∀ (xs : List α) (acc : List D), (∀ x ∈ xs, cStep b t e r0 (f x) S = .ok (g x) S) → acc.length + xs.length ≤ 1000000 →
    compD b t e r0 (xs.map f) acc S = .ok (acc ++ xs.filterMap g) S
  | [], acc, _, _ => by simp [compD, FL.ret]
  | x :: xs, acc, h, hl => by
    rw [List.map_cons, compD_cons]
    simp only [bnd, h x List.mem_cons_self]
    rw [List.length_cons] at hl
    cases hg : g x with
    | none =>
      simp only
      rw [compD_pure f g xs acc (fun y hy => h y (List.mem_cons_of_mem _ hy)) (by omega), List.filterMap_cons_none hg]
    | some y =>
      simp only
      rw [if_pos (by omega), compD_pure f g xs (acc ++ [y]) (fun y hy => h y (List.mem_cons_of_mem _ hy)) (by simp; omega), List.filterMap_cons_some hg]
      simp
theorem compD_map {α : Type} (f g : α → D) {b : FGx} {t : FTx} {e : FEx} {r0 : FL.Env} {S : Sto} (xs : List α) (h : ∀ x ∈ xs, cStep b t e r0 (f x) S = .ok (some (g x)) S) (hl : xs.length ≤ 1000000) :
    compD b t e r0 (xs.map f) [] S = .ok (xs.map g) S := by
  rw [compD_pure f (fun x => some (g x)) xs [] h (by simpa using hl), List.nil_append]
  simp
theorem compD_filter {α : Type} (f : α → D) (p : α → Bool) {b : FGx} {t : FTx} {e : FEx} {r0 : FL.Env} {S : Sto} (xs : List α) (h : ∀ x ∈ xs, cStep b t e r0 (f x) S = .ok (if p x = true then some (f x) else none) S) (hl : xs.length ≤ 1000000) :
    compD b t e r0 (xs.map f) [] S = .ok ((xs.filter p).map f) S := by
  rw [compD_pure f (fun x => if p x = true then some (f x) else none) xs [] h (by simpa using hl), List.nil_append]
  congr 1
  clear h hl
  induction xs with
  | nil => rfl
  | cons x xs ih =>
    cases hp : p x with
    | true => simp [hp, ih]
    | false => simp [hp, ih]
theorem compD2_cons (b : FGx) (t : FTx) (fi1 : FAx) (vs1 : List Nat) (b1 : FGx) (t1 : FTx) (e : FEx) (r0 : FL.Env) (d : D) (ds acc : List D) (S : Sto) :
    compD2 b t fi1 vs1 b1 t1 e r0 (d :: ds) acc S = bnd (cStep2 b t fi1 vs1 b1 t1 e r0 d acc) (fun acc' => compD2 b t fi1 vs1 b1 t1 e r0 ds acc') S := by
  unfold cStep2
  rw [bnd_assoc]
  refine congrFun (congrArg (bnd (noEx (b d r0))) (funext fun r1 => ?_)) S
  rw [bnd_assoc]
  refine congrArg (bnd (noEx (t r1))) (funext fun k => ?_)
  cases k with
  | false => rfl
  | true =>
    rw [if_pos rfl, if_pos rfl, bnd_assoc]
theorem compD2_pure {α : Type} (f : α → D) (g : α → List D) {b : FGx} {t : FTx} {fi1 : FAx} {vs1 : List Nat} {b1 : FGx} {t1 : FTx} {e : FEx} {r0 : FL.Env} {S : Sto} : ∀ (xs : List α) (acc : List D) (n : Nat),
    (∀ x ∈ xs, ∀ acc : List D, acc.length + (g x).length ≤ n → cStep2 b t fi1 vs1 b1 t1 e r0 (f x) acc S = .ok (acc ++ g x) S) → acc.length + (xs.flatMap g).length ≤ n →
    compD2 b t fi1 vs1 b1 t1 e r0 (xs.map f) acc S = .ok (acc ++ xs.flatMap g) S
  | [], acc, n, _, _ => by simp [compD2, FL.ret]
  | x :: xs, acc, n, h, hl => by
    rw [List.map_cons, compD2_cons]
    rw [List.flatMap_cons, List.length_append] at hl
    simp only [bnd, h x List.mem_cons_self acc (by omega)]
    rw [compD2_pure f g xs (acc ++ g x) n (fun y hy => h y (List.mem_cons_of_mem _ hy)) (by rw [List.length_append]; omega), List.flatMap_cons, List.append_assoc]

/-! ## loops by their turns -/
theorem loopD_cons (b : FGx) (body : FSx) (d : D) (ds : List D) (r : FL.Env) (S : Sto) : loopD b body (d :: ds) r S = bnd (lStep b body d r) (fun fl => match fl with
      | .nx r' => loopD b body ds r'
      | .ct r' => loopD b body ds r'
      | .bk r' => FL.ret (.nx r')
      | .rt v => FL.ret (.rt v)) S := by
  unfold lStep
  rw [bnd_assoc]
  rfl
theorem loopD_nil (b : FGx) (body : FSx) (r : FL.Env) (S : Sto) : loopD b body [] r S = .ok (.nx r) S := rfl
/-- a loop that goes to its end, with an invariant; every turn may draw -/
theorem loopD_inv {α : Type} {b : FGx} {body : FSx} (f : α → D) (I : List α → FL.Env → Sto → Prop) (step : ∀ x xs r S, I (x :: xs) r S → ∃ r' S', lStep b body (f x) r S = .ok (.nx r') S' ∧ I xs r' S') :
    ∀ (xs : List α) (r : FL.Env) (S : Sto), I xs r S → ∃ r' S', loopD b body (xs.map f) r S = .ok (.nx r') S' ∧ I [] r' S'
  | [], r, S, h => ⟨r, S, rfl, h⟩
  | x :: xs, r, S, h => by
    obtain ⟨r1, S1, e1, h1⟩ := step x xs r S h
    obtain ⟨r2, S2, e2, h2⟩ := loopD_inv f I step xs r1 S1 h1
    refine ⟨r2, S2, ?_, h2⟩
    rw [List.map_cons, loopD_cons]
    simp only [bnd, e1]
    exact e2

/-! ## indices -/
theorem atI_nat {α : Type} {xs : List α} {i : Nat} {x : α} (h : xs[i]? = some x) : atI xs (i : Int) = some x := by
  have hi := (List.getElem?_eq_some_iff.mp h).1
  unfold atI ixN
  rw [if_pos (by omega), if_pos (by omega)]
  simpa using h
theorem atI_0 {α : Type} (x : α) (xs : List α) : atI (x :: xs) 0 = some x := atI_nat (i := 0) rfl
theorem atI_1 {α : Type} (x y : α) (xs : List α) : atI (x :: y :: xs) 1 = some y := atI_nat (i := 1) rfl
theorem atI_2 {α : Type} (x y z : α) (xs : List α) : atI (x :: y :: z :: xs) 2 = some z := atI_nat (i := 2) rfl
theorem atI_3 {α : Type} (x y z w : α) (xs : List α) : atI (x :: y :: z :: w :: xs) 3 = some w := atI_nat (i := 3) rfl
theorem atI_last {α : Type} {xs : List α} {x : α} (h : xs.getLast? = some x) : atI xs (-1) = some x := by
  have hne : xs ≠ [] := fun z => by rw [z] at h; cases h
  have hl : 0 < xs.length := List.length_pos_iff.mpr hne
  unfold atI ixN
  rw [if_neg (by omega), if_pos (by omega)]
  simp only [Option.bind_some]
  rw [List.getLast?_eq_getElem?] at h
  rw [← h]
  congr 1
  omega
theorem ixD_tup (xs : List D) (i : Int) : ixD (.tup xs) (.int i) = atI xs i := by
  simp only [ixD, alt, on2, D.lst?, D.tup?, D.int?]
  cases atI xs i <;> rfl
theorem ixD_lst (xs : List D) (i : Int) : ixD (.lst xs) (.int i) = atI xs i := by
  simp only [ixD, alt, on2, D.lst?, D.tup?, D.int?, D.str?, D.dct?]
  cases atI xs i <;> rfl
theorem cut_take (xs : List D) (i : Nat) (h : i ≤ xs.length) : cutL xs none (some (i : Int)) = xs.take i := by
  unfold cutL
  rw [HT.sIx_none, show HT.sIx xs.length xs.length (some (i : Int)) = min i xs.length from HT.sIx_nat xs.length xs.length i, Nat.min_eq_left h]
  simp
theorem cut_drop (xs : List D) (i : Nat) (h : i ≤ xs.length) : cutL xs (some (i : Int)) none = xs.drop i := by
  unfold cutL
  rw [show HT.sIx xs.length 0 (some (i : Int)) = min i xs.length from HT.sIx_nat xs.length 0 i, HT.sIx_none, Nat.min_eq_left h]
  exact List.take_of_length_le (by simp)
theorem set_split {α : Type} (xs : List α) (i : Nat) (v : α) (h : i < xs.length) : xs.take i ++ v :: xs.drop (i + 1) = xs.set i v := by
  rw [List.set_eq_take_append_cons_drop, if_pos h]
end SS
end

section
set_option Elab.async false
set_option linter.all false
set_option maxRecDepth 100000
set_option autoImplicit false
set_option maxHeartbeats 4000000
namespace SS
open PySem PySem.Spec PyProof.Rows L2 FL

/-! ## programs, states, events -/
inductive Deed where
  | rise (c : Str) (n : Int) | spare (c : Str) (n : Int) | keep (s : Str) | same (s : Str) | other (s : Str) | copy (s t : Str) | agree (s t : Str) | differ (s t : Str) | newer (s t : Str) | elder (s t : Str) | doo (x : Str)
def Deed.word : Deed → Str
  | .rise _ _ => "rise"
  | .spare _ _ => "spare"
  | .keep _ => "keep"
  | .same _ => "same"
  | .other _ => "other"
  | .copy _ _ => "copy"
  | .agree _ _ => "agree"
  | .differ _ _ => "differ"
  | .newer _ _ => "newer"
  | .elder _ _ => "elder"
  | .doo _ => "do"
def Deed.args : Deed → List D
  | .rise c n => [.str c, .int n]
  | .spare c n => [.str c, .int n]
  | .keep s => [.str s]
  | .same s => [.str s]
  | .other s => [.str s]
  | .copy s t => [.str s, .str t]
  | .agree s t => [.str s, .str t]
  | .differ s t => [.str s, .str t]
  | .newer s t => [.str s, .str t]
  | .elder s t => [.str s, .str t]
  | .doo x => [.str x]
def Deed.d (w : Deed) : D := .tup (.str w.word :: w.args)
structure Arw where
  p : Int
  w : Deed
  q : Int
def Arw.d (a : Arw) : D := .tup [.int a.p, a.w.d, .int a.q]
structure Pg where
  cs : List Str
  ss : List (Str × Str)
  ps : List (Str × List Arw)
def slotD (s : Str × Str) : D := .tup [.str s.1, .str s.2]
def partyD (q : Str × List Arw) : D := .tup [.str q.1, .tup (q.2.map Arw.d)]
def Pg.d (p : Pg) : D := .tup [.tup (p.cs.map D.str), .tup (p.ss.map slotD), .tup (p.ps.map partyD)]
abbrev Ev := Str × Nat
def evD (e : Ev) : D := .tup [.str e.1, .int e.2]
structure St where
  pl : List Int
  ct : List Int
  st : List Int
def intsD (xs : List Int) : D := .tup (xs.map D.int)
def St.d (s : St) : D := .tup [intsD s.pl, intsD s.ct, intsD s.st]
def Pg.pi (p : Pg) (n : Str) : Nat := (p.ps.map (·.1)).idxOf n
def Pg.si (p : Pg) (s : Str) : Nat := (p.ss.map (·.1)).idxOf s
def Pg.ci (p : Pg) (c : Str) : Nat := p.cs.idxOf c
def Pg.own (p : Pg) (s : Str) : Str := (p.ss[p.si s]?.map (·.2)).getD ""
def Pg.hasS (p : Pg) (s : Str) : Prop := s ∈ p.ss.map (·.1)
def okN (n : Str) : Prop := 1 ≤ n.length ∧ n.length ≤ 8 ∧ ∀ c ∈ n.cps.toList, 97 ≤ c ∧ c ≤ 122
/-- what a deed may name -/
def Pg.okD (p : Pg) : Deed → Prop
  | .rise c n => c ∈ p.cs ∧ 0 ≤ n ∧ n ≤ 100
  | .spare c n => c ∈ p.cs ∧ 0 ≤ n ∧ n ≤ 100
  | .keep s => p.hasS s
  | .same s => p.hasS s
  | .other s => p.hasS s
  | .copy s t => p.hasS s ∧ p.hasS t
  | .agree s t => p.hasS s ∧ p.hasS t
  | .differ s t => p.hasS s ∧ p.hasS t
  | .newer s t => p.hasS s ∧ p.hasS t
  | .elder s t => p.hasS s ∧ p.hasS t
  | .doo x => okN x
structure Pg.Ok (p : Pg) : Prop where
  ndP : (p.ps.map (·.1)).Nodup
  ndS : (p.ss.map (·.1)).Nodup
  ndC : p.cs.Nodup
  own : ∀ s ∈ p.ss, s.2 ∈ p.cs
  deeds : ∀ q ∈ p.ps, ∀ a ∈ q.2, p.okD a.w ∧ 0 ≤ a.p ∧ a.p ≤ 100 ∧ 0 ≤ a.q ∧ a.q ≤ 100
  names : ∀ q ∈ p.ps, okN q.1
  namesS : ∀ q ∈ p.ss, okN q.1
  namesC : ∀ c ∈ p.cs, okN c
  lenP' : p.ps.length ≤ 3
  lenS' : p.ss.length ≤ 4
  lenC' : p.cs.length ≤ 2
  lenA' : ∀ q ∈ p.ps, q.2.length ≤ 10
theorem Pg.Ok.lenP {p : Pg} (h : p.Ok) : p.ps.length ≤ 10 := Nat.le_trans h.lenP' (by omega)
theorem Pg.Ok.lenS {p : Pg} (h : p.Ok) : p.ss.length ≤ 10 := Nat.le_trans h.lenS' (by omega)
theorem Pg.Ok.lenC {p : Pg} (h : p.Ok) : p.cs.length ≤ 10 := Nat.le_trans h.lenC' (by omega)
theorem Pg.Ok.lenA {p : Pg} (h : p.Ok) : ∀ q ∈ p.ps, q.2.length ≤ 100 := fun q m => Nat.le_trans (h.lenA' q m) (by omega)
structure St.Ok (p : Pg) (s : St) : Prop where
  pl : s.pl.length = p.ps.length
  ct : s.ct.length = p.cs.length
  st : s.st.length = p.ss.length
def Pg.arw (p : Pg) (e : Ev) : Option Arw := (p.ps[p.pi e.1]?).bind fun q => q.2[e.2]?
def stampOf (p : Pg) (s : St) (x : Str) : Int := s.st.getD (p.si x) 0
def countOf (p : Pg) (s : St) (x : Str) : Int := s.ct.getD (p.ci (p.own x)) 0
def gap (p : Pg) (s : St) : Deed → Int
  | .same x => countOf p s x - stampOf p s x
  | .other x => countOf p s x - stampOf p s x
  | .agree x y => stampOf p s x - stampOf p s y
  | .differ x y => stampOf p s x - stampOf p s y
  | .newer x y => stampOf p s x - stampOf p s y
  | .elder x y => stampOf p s x - stampOf p s y
  | _ => 0
def Deed.isLook : Deed → Bool
  | .same _ => true
  | .other _ => true
  | .agree _ _ => true
  | .differ _ _ => true
  | .newer _ _ => true
  | .elder _ _ => true
  | _ => false
def truth (w : Deed) (g : Int) : Bool := match w with
  | .newer _ _ => decide (0 < g)
  | .elder _ _ => !decide (0 < g)
  | .same _ => g == 0
  | .agree _ _ => g == 0
  | .other _ => !(g == 0)
  | .differ _ _ => !(g == 0)
  | _ => true
def stands (p : Pg) (s : St) (e : Ev) (a : Arw) : Bool := s.pl.getD (p.pi e.1) 0 == a.p
def canCome (p : Pg) (s : St) (e : Ev) (a : Arw) : Bool := stands p s e a && truth a.w (gap p s a.w)
def after (p : Pg) (s : St) (e : Ev) (a : Arw) : St where
  pl := s.pl.set (p.pi e.1) a.q
  ct := match a.w with
    | .rise c n => s.ct.set (p.ci c) (s.ct.getD (p.ci c) 0 + n)
    | _ => s.ct
  st := match a.w with
    | .keep x => s.st.set (p.si x) (countOf p s x)
    | .copy x y => s.st.set (p.si x) (stampOf p s y)
    | _ => s.st
def Pg.evs (p : Pg) : List Ev := p.ps.flatMap fun q => (List.range q.2.length).map fun k => (q.1, k)
def canE (p : Pg) (s : St) (e : Ev) : Bool := match p.arw e with
  | some a => canCome p s e a
  | none => false
def stE (p : Pg) (s : St) (e : Ev) : Bool := match p.arw e with
  | some a => stands p s e a
  | none => false
def afterE (p : Pg) (s : St) (e : Ev) : St := match p.arw e with
  | some a => after p s e a
  | none => s
def Pg.begun (p : Pg) : St := ⟨List.replicate p.ps.length 0, List.replicate p.cs.length 0, List.replicate p.ss.length 0⟩

/-! ## places of names -/
theorem idx_get {xs : List Str} {x : Str} (h : x ∈ xs) : xs[xs.idxOf x]? = some x := by
  have hl := List.idxOf_lt_length_iff.mpr h
  rw [List.getElem?_eq_getElem hl, List.getElem_idxOf]
theorem idx_first {xs : List Str} {x : Str} (j : Nat) (h : j < xs.idxOf x) : xs[j]? ≠ some x := fun z => by
  obtain ⟨hj, e⟩ := List.getElem?_eq_some_iff.mp z
  have := List.not_of_lt_findIdx (p := (· == x)) (xs := xs) (i := j) (by simpa [List.idxOf] using h)
  simp [e] at this
theorem pi_get {p : Pg} {n : Str} (h : n ∈ p.ps.map (·.1)) : ∃ as, p.ps[p.pi n]? = some (n, as) := by
  have := idx_get h
  rw [List.getElem?_map] at this
  cases z : p.ps[(p.ps.map (·.1)).idxOf n]? with
  | none => rw [z] at this; cases this
  | some q =>
    rw [z] at this
    have hq : q.1 = n := Option.some.inj this
    exact ⟨q.2, z.trans (congrArg some (Prod.ext hq rfl))⟩
theorem si_get {p : Pg} {s : Str} (h : p.hasS s) : p.ss[p.si s]? = some (s, p.own s) := by
  have := idx_get h
  rw [List.getElem?_map] at this
  unfold Pg.own
  cases z : p.ss[(p.ss.map (·.1)).idxOf s]? with
  | none => rw [z] at this; cases this
  | some q =>
    rw [z] at this
    have hq : q.1 = s := Option.some.inj this
    rw [show p.si s = (p.ss.map (·.1)).idxOf s from rfl, z]
    exact congrArg some (Prod.ext hq rfl)
theorem own_mem {p : Pg} (ok : p.Ok) {s : Str} (h : p.hasS s) : p.own s ∈ p.cs := ok.own _ (List.mem_of_getElem? (si_get h))
theorem ci_get {p : Pg} {c : Str} (h : c ∈ p.cs) : p.cs[p.ci c]? = some c := idx_get h
theorem pk_deed (w : Deed) : Pk 1 w.d := pk_tup fun d hd => by
  cases w <;> simp [Deed.args] at hd <;> (try rcases hd with rfl | rfl | rfl) <;> (try rcases hd with rfl | rfl) <;> first | exact pk_str 0 _ | exact pk_int 0 _
theorem pk_arw (a : Arw) : Pk 2 a.d := pk_tup fun d hd => by
  simp at hd
  rcases hd with rfl | rfl | rfl
  · exact pk_int 1 _
  · exact pk_deed a.w
  · exact pk_int 1 _
theorem pk_slot (s : Str × Str) : Pk 1 (slotD s) := pk_tup fun d hd => by
  simp at hd
  rcases hd with rfl | rfl <;> exact pk_str 0 _
theorem pk_party (q : Str × List Arw) : Pk 4 (partyD q) := pk_tup fun d hd => by
  simp at hd
  rcases hd with rfl | rfl
  · exact pk_str 3 _
  · exact pk_tup fun d hd => by
      obtain ⟨a, _, rfl⟩ := List.mem_map.mp hd
      exact pk_arw a
theorem pk_strs (xs : List Str) : Pk 1 (.lst (xs.map D.str)) := pk_lst fun d hd => by
  obtain ⟨x, _, rfl⟩ := List.mem_map.mp hd
  exact pk_str 0 _
theorem pk_strsT (xs : List Str) : Pk 1 (.tup (xs.map D.str)) := pk_tup fun d hd => by
  obtain ⟨x, _, rfl⟩ := List.mem_map.mp hd
  exact pk_str 0 _
theorem pk_slots (xs : List (Str × Str)) : Pk 2 (.tup (xs.map slotD)) := pk_tup fun d hd => by
  obtain ⟨x, _, rfl⟩ := List.mem_map.mp hd
  exact pk_slot x
theorem pk_parties (xs : List (Str × List Arw)) : Pk 5 (.tup (xs.map partyD)) := pk_tup fun d hd => by
  obtain ⟨x, _, rfl⟩ := List.mem_map.mp hd
  exact pk_party x
theorem pk_pg (p : Pg) : Pk 6 p.d := pk_tup fun d hd => by
  simp at hd
  rcases hd with rfl | rfl | rfl
  · exact (pk_strsT _).mono (by omega)
  · exact (pk_slots _).mono (by omega)
  · exact pk_parties _
theorem pk_ev (e : Ev) : Pk 1 (evD e) := pk_tup fun d hd => by
  simp at hd
  rcases hd with rfl | rfl
  · exact pk_str 0 _
  · exact pk_int 0 _
theorem pk_evs (es : List Ev) : Pk 2 (.lst (es.map evD)) := pk_lst fun d hd => by
  obtain ⟨x, _, rfl⟩ := List.mem_map.mp hd
  exact pk_ev x
theorem pk_evsT (es : List Ev) : Pk 2 (.tup (es.map evD)) := pk_tup fun d hd => by
  obtain ⟨x, _, rfl⟩ := List.mem_map.mp hd
  exact pk_ev x
theorem pk_ints (xs : List Int) : Pk 1 (intsD xs) := pk_tup fun d hd => by
  obtain ⟨x, _, rfl⟩ := List.mem_map.mp hd
  exact pk_int 0 _
theorem index_strs {c : Bool} {xs : List Str} {x : Str} (h : x ∈ xs) : indexD (if c then .lst (xs.map D.str) else .tup (xs.map D.str)) [.str x] = some (.int (xs.idxOf x)) := by
  have g : (xs.map D.str)[xs.idxOf x]? = some (.str x) := by rw [List.getElem?_map, idx_get h]; rfl
  have g2 : ∀ j, j < xs.idxOf x → (xs.map D.str)[j]? ≠ some (.str x) := fun j hj z => by
    rw [List.getElem?_map] at z
    cases q : xs[j]? with
    | none => rw [q] at z; cases z
    | some y => rw [q] at z; cases z; exact idx_first j hj q
  cases c with
  | true => exact indexD_pn (.inl rfl) ((pk_strs xs).pn (by omega)) (pn_str x) g g2
  | false => exact indexD_pn (.inr rfl) ((pk_strsT xs).pn (by omega)) (pn_str x) g g2
theorem index_lst {xs : List Str} {x : Str} (h : x ∈ xs) : indexD (.lst (xs.map D.str)) [.str x] = some (.int (xs.idxOf x)) := index_strs (c := true) h
theorem index_tup {xs : List Str} {x : Str} (h : x ∈ xs) : indexD (.tup (xs.map D.str)) [.str x] = some (.int (xs.idxOf x)) := index_strs (c := false) h
end SS
end

section
set_option Elab.async false
set_option linter.all false
set_option maxRecDepth 100000
set_option autoImplicit false
set_option maxHeartbeats 4000000
namespace SS
open PySem PySem.Spec PyProof.Rows L2 FL
local macro_rules
  | `(tactic| simp_arith only [$xs,*]) => `(tactic| simp (config := { implicitDefEqProofs := false }) only [tn_ok, oR_some, nx_ok, ev_var, ev_c, ev_bin, ev_kBin1, ev_kBin2, ev_un, ev_kUn, ev_asB, ev_kB, ev_asT, ev_kT, ev_tAnd2, ev_kAndT, ev_kAndF, ev_tOr2, ev_kOrT, ev_kOrF, ev_not, ev_kNot, ev_eAnd2, ev_kAndE, ev_kAndET, ev_kAndEF, ev_eOr2, ev_kOrE, ev_kOrET, ev_kOrEF, ev_eNot1, ev_kNotE, ev_kNotE2, ev_if, ev_kIfT, ev_kIfF, ev_aNil, ev_aCons, ev_kCons, ev_kCons2, ev_aStar, ev_kStar, ev_kStar2, ev_kStar3, ev_eTup, ev_kTup, ev_kTup2, ev_eLst, ev_kLst, ev_kLst2, ev_eNewL, ev_kNewL, ev_kNewL2, ev_newD, ev_callP, ev_kCallP, ev_call, ev_kCall, ev_kCall2, ev_oNone, ev_oSome, ev_kO, ev_kO2, ev_sl, ev_kSl, ev_kSl2, ev_kSl3, ev_meth, ev_kM, ev_kM2, ev_kM3, ev_meth0, ev_kM0, ev_chain, ev_kCh, ev_kCh2, ev_kCh3T, ev_kCh3F, ev_kCh4, ev_kLs, ev_kComp, ev_comp, ev_kRef, ev_compM, ev_kComp2, ev_comp2, ev_iSeq, ev_kIt, ev_iRange, ev_kRg, ev_enT, ev_enL, ev_iEnum, items_lst, items_tup, items_str, ev_true, ev_ret, ev_kRet, ev_expr, ev_kEx, ev_asg, ev_kAsg, ev_kNx, ev_seq, ev_kSeqN, ev_kSeqR, ev_kSeqB, ev_kSeqC, ev_ifS, ev_kIfST, ev_kIfSF, ev_for, ev_kFor, ev_next, ev_retN, ev_break, ev_cont, ev_par, ev_kPar, ev_par3, ev_kPar3, ev_gName, ev_gTup, ev_gsNil, ev_gsCons, ev_kGs, ev_gSub, ev_kSub, ev_kSub2, ev_kSub3, ev_kSub4, ev_mut, ev_kMu, ev_kMu2, ev_kMu3, ev_kMu4, ev_catM, ev_kCat, ev_kCat2, ev_catR, vw_non, vw_bl, vw_int, vw_str, vw_lst, vw_tup, vw_dct, vw_ref, vwO_lst, vwO_dct, tru_bl, tru_int, tru_lst, tru_tup, tru_non, add_int, add_lst, add_tup, add_str, sub_int, neg_int, gt_int, ge_int, lt_int, le_int, len_lst, len_tup, len_dct, len_str, int_int, tuple_lst, tuple_tup, list_lst, list_tup, sl_lst, sl_tup, is_non, isnt_non, non_bl, non_int, non_str, non_lst, non_tup, non_non, int_int?, ref_ref?, alt_tup, alt_lst, isi_int_non, isi_int_bl, isi_int_int, isi_int_str, isi_int_lst, isi_int_tup, isi_bool_non, isi_bool_bl, isi_bool_int, isi_bool_str, isi_bool_lst, isi_bool_tup, isi_str_non, isi_str_bl, isi_str_int, isi_str_str, isi_str_lst, isi_str_tup, isi_tuple_non, isi_tuple_bl, isi_tuple_int, isi_tuple_str, isi_tuple_lst, isi_tuple_tup, isi_list_non, isi_list_bl, isi_list_int, isi_list_str, isi_list_lst, isi_list_tup, isi_dict_non, isi_dict_bl, isi_dict_int, isi_dict_str, isi_dict_lst, isi_dict_tup, tyIn_lst2, tyD_lst, tyIn_tup2, tyD_tup, tyIn_str, tyD_str, tyIn_dct, tyD_dct, ev_cStep, ev_kC, ev_kC2T, ev_kC2F, ev_kSome, ev_cStep2, ev_kD, ev_kD2T, ev_kD2F, ev_kD3, ev_lStep, ev_kL, List.getElem?_cons_zero, List.getElem?_cons_succ, Option.join_some, Option.bind_some, Option.map_some, wipeE, List.set_cons_zero, List.set_cons_succ, List.length_cons, List.length_nil, List.map_cons, List.map_nil, gAll, gDef, List.cons_append, List.nil_append, if_true, if_false, Bool.not_true, Bool.not_false, Nat.zero_add, Nat.reduceAdd, Nat.reduceLeDiff, and_true, and_self, true_and, reduceIte, Bool.false_eq_true, $xs,*])
/-! ## the program's functions -/
abbrev Fn := List D → M D
theorem pgD (p : Pg) : p.d = .tup [.tup (p.cs.map D.str), .tup (p.ss.map slotD), .tup (p.ps.map partyD)] := rfl
def SpNames (F : Fn) : Prop := ∀ (p : Pg) (S : Sto), p.Ok → F [p.d] S = .ok (.lst ((p.ps.map (·.1)).map D.str)) S
theorem party_names_ok : SpNames (dBody false 3 B_party_names) := by
  intro p S ok
  show doneR false S (B_party_names [some p.d, none, none] S) = _
  simp_arith only [B_party_names, pgD, ixD_tup, atI_2]
  rw [compD_map partyD (fun q => .str q.1) p.ps (fun q hq => ?_) (by have := ok.lenP; omega)]
  · simp_arith only [done_eq, List.map_map, Function.comp_def]
  · simp_arith only [partyD]
def SpSpot (F : Fn) : Prop := ∀ (p : Pg) (n : Str) (S : Sto), p.Ok → n ∈ p.ps.map (·.1) → F [p.d, .str n] S = .ok (.int (p.pi n)) S
theorem party_spot_ok {F1 : Fn} (h1 : SpNames F1) : SpSpot (dBody false 2 (B_party_spot F1)) := by
  intro p n S ok hn
  show doneR false S (B_party_spot F1 [some p.d, some (.str n)] S) = _
  simp_arith only [B_party_spot, h1 p S ok, index_lst hn, done_eq]
  rfl
def SpSlot (F : Fn) : Prop := ∀ (p : Pg) (n : Str) (S : Sto), p.Ok → p.hasS n → F [p.d, .str n] S = .ok (.int (p.si n)) S
theorem slot_spot_ok : SpSlot (dBody false 4 B_slot_spot) := by
  intro p n S ok hn
  show doneR false S (B_slot_spot [some p.d, some (.str n), none, none] S) = _
  simp_arith only [B_slot_spot, pgD, ixD_tup, atI_1]
  rw [compD_map slotD (fun q => .str q.1) p.ss (fun q hq => ?_) (by have := ok.lenS; omega)]
  · have e : p.ss.map (fun q => D.str q.1) = (p.ss.map (·.1)).map D.str := by simp
    simp_arith only [e, index_lst hn, done_eq]
    rfl
  · simp_arith only [slotD]

def SpOwner (F : Fn) : Prop := ∀ (p : Pg) (n : Str) (S : Sto), p.Ok → p.hasS n → F [p.d, .str n] S = .ok (.int (p.ci (p.own n))) S
theorem get_slot {p : Pg} {n : Str} (h : p.hasS n) : (p.ss.map slotD)[p.si n]? = some (slotD (n, p.own n)) := by rw [List.getElem?_map, si_get h]; rfl
theorem get_party {p : Pg} {n : Str} {as : List Arw} (h : p.ps[p.pi n]? = some (n, as)) : (p.ps.map partyD)[p.pi n]? = some (partyD (n, as)) := by rw [List.getElem?_map, h]; rfl
theorem owner_spot_ok {F1 : Fn} (h1 : SpSlot F1) : SpOwner (dBody false 2 (B_owner_spot F1)) := by
  intro p n S ok hn
  show doneR false S (B_owner_spot F1 [some p.d, some (.str n)] S) = _
  have e1 : F1 [p.d, .str n] S = _ := h1 p n S ok hn
  rw [pgD] at e1
  simp_arith only [B_owner_spot, pgD, e1, ixD_tup, atI_0, atI_1, atI_nat (get_slot hn), slotD, index_tup (own_mem ok hn), done_eq]
  rfl
def SpArrow (F : Fn) : Prop := ∀ (p : Pg) (e : Ev) (a : Arw) (S : Sto), p.Ok → e.1 ∈ p.ps.map (·.1) → p.arw e = some a → F [p.d, evD e] S = .ok a.d S
theorem arw_get {p : Pg} {e : Ev} {a : Arw} (hn : e.1 ∈ p.ps.map (·.1)) (h : p.arw e = some a) : ∃ as, p.ps[p.pi e.1]? = some (e.1, as) ∧ as[e.2]? = some a := by
  obtain ⟨as, g⟩ := pi_get hn
  refine ⟨as, g, ?_⟩
  unfold Pg.arw at h
  rw [g] at h
  exact h
theorem get_arw {as : List Arw} {k : Nat} {a : Arw} (h : as[k]? = some a) : (as.map Arw.d)[k]? = some a.d := by rw [List.getElem?_map, h]; rfl
theorem arrow_at_ok {F1 : Fn} (h1 : SpSpot F1) : SpArrow (dBody false 2 (B_arrow_at F1)) := by
  intro p e a S ok hn ha
  obtain ⟨as, g1, g2⟩ := arw_get hn ha
  show doneR false S (B_arrow_at F1 [some p.d, some (evD e)] S) = _
  have e1 := h1 p e.1 S ok hn
  rw [pgD] at e1
  simp_arith only [B_arrow_at, pgD, evD, e1, ixD_tup, atI_0, atI_1, atI_2, atI_nat (get_party g1), partyD, atI_nat (get_arw g2), done_eq]
def SpAll (F : Fn) : Prop := ∀ (p : Pg) (S : Sto), p.Ok → F [p.d] S = .ok (.lst (p.evs.map evD)) S
theorem len_flat {α β : Type} (f : α → List β) (n : Nat) : ∀ xs : List α, (∀ x ∈ xs, (f x).length ≤ n) → (xs.flatMap f).length ≤ xs.length * n
  | [], _ => by simp
  | x :: xs, h => by
    have h1 := h x List.mem_cons_self
    have h2 := len_flat f n xs fun y hy => h y (List.mem_cons_of_mem _ hy)
    rw [List.flatMap_cons, List.length_append, List.length_cons, Nat.succ_mul]
    omega
theorem len_evs {p : Pg} (ok : p.Ok) : p.evs.length ≤ 1000 := by
  have h := len_flat (fun q : Str × List Arw => (List.range q.2.length).map fun k => (q.1, k)) 100 p.ps (fun q hq => by simpa using ok.lenA q hq)
  have := ok.lenP
  unfold Pg.evs
  omega
theorem len_evs30 {p : Pg} (ok : p.Ok) : p.evs.length ≤ 30 := by
  have h := len_flat (fun q : Str × List Arw => (List.range q.2.length).map fun k => (q.1, k)) 10 p.ps (fun q hq => by simpa using ok.lenA' q hq)
  have := ok.lenP'
  unfold Pg.evs
  omega
theorem range1 {n : Nat} (h : n ≤ 1000000) : rangeD1 [.int (n : Int)] = some ((List.range n).map fun i : Nat => D.int i) := by
  have : smallR (n : Int) = true := by unfold smallR; exact decide_eq_true (by omega)
  simp only [rangeD1, one, on1, D.int?, guard', this, if_true, Int.toNat_natCast, Int.zero_add]
theorem all_events_ok : SpAll (dBody false 4 B_all_events) := by
  intro p S ok
  show doneR false S (B_all_events [some p.d, none, none, none] S) = _
  simp_arith only [B_all_events, pgD, ixD_tup, atI_2]
  have step : ∀ q ∈ p.ps, ∀ acc : List D, acc.length + ((List.range q.2.length).map fun k => evD (q.1, k)).length ≤ 1000000 → cStep2 (gTup' 2 (gsCons (gName' 1) (gsCons (gName' 2) gsNil))) tTrue (iRange rangeD1 (aCons (eCallP lenD (aCons (eVar 2) aNil)) aNil)) [3] (gName' 3) tTrue (eTup (aCons (eVar 1) (aCons (eVar 3) aNil))) [some (.tup [.tup (p.cs.map D.str), .tup (p.ss.map slotD), .tup (p.ps.map partyD)]), none, none, none] (partyD q) acc S = .ok (acc ++ (List.range q.2.length).map fun k => evD (q.1, k)) S := by
    intro q hq acc hl
    have hA := ok.lenA q hq
    simp_arith only [partyD, List.length_map, range1 (Nat.le_trans hA (by omega : 100 ≤ 1000000))]
    have e := compD_pure (S := S) (b := gName' 3) (t := tTrue) (e := eTup (aCons (eVar 1) (aCons (eVar 3) aNil))) (r0 := [some (.tup [.tup (p.cs.map D.str), .tup (p.ss.map slotD), .tup (p.ps.map partyD)]), some (.str q.1), some (.tup (q.2.map Arw.d)), none]) (fun k : Nat => D.int k) (fun k => some (evD (q.1, k))) (List.range q.2.length) acc (fun k hk => by
      simp_arith only [few_ok (show [D.str q.1, D.int (k : Int)].length ≤ 1000000 by simp), evD]) (by simpa using hl)
    rw [e, nx_ok]
    simp
  have all : ([] : List D).length + (p.ps.flatMap fun q => (List.range q.2.length).map fun k => evD (q.1, k)).length ≤ 1000000 := by
    have h := len_flat (fun q : Str × List Arw => (List.range q.2.length).map fun k => evD (q.1, k)) 100 p.ps (fun q hq => by simpa using ok.lenA q hq)
    have := ok.lenP
    simp only [List.length_nil]
    omega
  have e := compD2_pure partyD (fun q => (List.range q.2.length).map fun k => evD (q.1, k)) p.ps [] 1000000 step all
  rw [e]
  simp_arith only [done_eq, List.nil_append, Pg.evs, List.map_flatMap, List.map_map, Function.comp_def]
def SpFirst (F : Fn) : Prop := ∀ (p : Pg) (S : Sto), p.Ok → F [p.d] S = .ok p.begun.d S
theorem mul_zero {n : Nat} (h : n ≤ 1000) : mulD (.tup [.int 0]) (.int (n : Int)) = some (intsD (List.replicate n 0)) := by
  have c : decide (([D.int 0] : List D) ≠ [] ∧ ([D.int 0] : List D).length ≤ 1000 ∧ -1000 ≤ (n : Int) ∧ (n : Int) ≤ 1000) = true := decide_eq_true ⟨by simp, by simp, by omega, by omega⟩
  simp only [mulD, alt, ii, on2, D.int?, D.tup?, guard', c, if_true, Int.toNat_natCast, intsD]
  congr 2
  induction n with
  | zero => rfl
  | succ n ih => rw [List.replicate_succ, List.flatten_cons, ih (by omega) (decide_eq_true ⟨by simp, by simp, by omega, by omega⟩), List.replicate_succ]; rfl
theorem first_state_ok : SpFirst (dBody false 4 B_first_state) := by
  intro p S ok
  show doneR false S (B_first_state [some p.d, none, none, none] S) = _
  have h1 := ok.lenP
  have h2 := ok.lenS
  have h3 := ok.lenC
  simp_arith only [B_first_state, pgD, List.length_map, mul_zero (show p.ps.length ≤ 1000 by omega), mul_zero (show p.ss.length ≤ 1000 by omega), mul_zero (show p.cs.length ≤ 1000 by omega), few_ok (show [D.int 0].length ≤ 1000000 by simp), few_ok (show [intsD (List.replicate p.ps.length 0), intsD (List.replicate p.cs.length 0), intsD (List.replicate p.ss.length 0)].length ≤ 1000000 by simp), done_eq, St.d, Pg.begun]
theorem get_int {xs : List Int} {i : Nat} (h : i < xs.length) : (xs.map D.int)[i]? = some (.int (xs.getD i 0)) := by
  rw [List.getElem?_map, List.getElem?_eq_getElem h]
  simp [List.getD, List.getElem?_eq_getElem h]
theorem pi_lt {p : Pg} {n : Str} (h : n ∈ p.ps.map (·.1)) : p.pi n < p.ps.length := by
  obtain ⟨as, g⟩ := pi_get h
  exact (List.getElem?_eq_some_iff.mp g).1
theorem si_lt {p : Pg} {n : Str} (h : p.hasS n) : p.si n < p.ss.length := (List.getElem?_eq_some_iff.mp (si_get h)).1
theorem ci_lt {p : Pg} {n : Str} (h : n ∈ p.cs) : p.ci n < p.cs.length := (List.getElem?_eq_some_iff.mp (ci_get h)).1
def SpStands (F : Fn) : Prop := ∀ (p : Pg) (s : St) (e : Ev) (a : Arw) (S : Sto), p.Ok → s.Ok p → e.1 ∈ p.ps.map (·.1) → p.arw e = some a → F [p.d, s.d, evD e] S = .ok (.bl (stands p s e a)) S
theorem stands_at_ok {F1 F2 : Fn} (h1 : SpArrow F1) (h2 : SpSpot F2) : SpStands (dBody false 3 (B_stands_at F1 F2)) := by
  intro p s e a S ok so hn ha
  show doneR false S (B_stands_at F1 F2 [some p.d, some s.d, some (evD e)] S) = _
  have e1 := h1 p e a S ok hn ha
  have e2 := h2 p e.1 S ok hn
  rw [pgD] at e1 e2
  rw [evD] at e1
  simp_arith only [B_stands_at, pgD, evD, e1, e2, ixD_tup, atI_0, atI_1, atI_2, St.d, intsD, atI_nat (get_int (show p.pi e.1 < s.pl.length by rw [so.pl]; exact pi_lt hn)), Arw.d, eqD_int, done_eq]
  rfl
end SS
end

section
set_option Elab.async false
set_option linter.all false
set_option maxRecDepth 100000
set_option autoImplicit false
set_option maxHeartbeats 4000000
namespace SS
open PySem PySem.Spec PyProof.Rows L2 FL
local macro_rules
  | `(tactic| simp_arith only [$xs,*]) => `(tactic| simp (config := { implicitDefEqProofs := false }) only [tn_ok, oR_some, nx_ok, ev_var, ev_c, ev_bin, ev_kBin1, ev_kBin2, ev_un, ev_kUn, ev_asB, ev_kB, ev_asT, ev_kT, ev_tAnd2, ev_kAndT, ev_kAndF, ev_tOr2, ev_kOrT, ev_kOrF, ev_not, ev_kNot, ev_eAnd2, ev_kAndE, ev_kAndET, ev_kAndEF, ev_eOr2, ev_kOrE, ev_kOrET, ev_kOrEF, ev_eNot1, ev_kNotE, ev_kNotE2, ev_if, ev_kIfT, ev_kIfF, ev_aNil, ev_aCons, ev_kCons, ev_kCons2, ev_aStar, ev_kStar, ev_kStar2, ev_kStar3, ev_eTup, ev_kTup, ev_kTup2, ev_eLst, ev_kLst, ev_kLst2, ev_eNewL, ev_kNewL, ev_kNewL2, ev_newD, ev_callP, ev_kCallP, ev_call, ev_kCall, ev_kCall2, ev_oNone, ev_oSome, ev_kO, ev_kO2, ev_sl, ev_kSl, ev_kSl2, ev_kSl3, ev_meth, ev_kM, ev_kM2, ev_kM3, ev_meth0, ev_kM0, ev_chain, ev_kCh, ev_kCh2, ev_kCh3T, ev_kCh3F, ev_kCh4, ev_kLs, ev_kComp, ev_comp, ev_kRef, ev_compM, ev_kComp2, ev_comp2, ev_iSeq, ev_kIt, ev_iRange, ev_kRg, ev_enT, ev_enL, ev_iEnum, items_lst, items_tup, items_str, ev_true, ev_ret, ev_kRet, ev_expr, ev_kEx, ev_asg, ev_kAsg, ev_kNx, ev_seq, ev_kSeqN, ev_kSeqR, ev_kSeqB, ev_kSeqC, ev_ifS, ev_kIfST, ev_kIfSF, ev_for, ev_kFor, ev_next, ev_retN, ev_break, ev_cont, ev_par, ev_kPar, ev_par3, ev_kPar3, ev_gName, ev_gTup, ev_gsNil, ev_gsCons, ev_kGs, ev_gSub, ev_kSub, ev_kSub2, ev_kSub3, ev_kSub4, ev_mut, ev_kMu, ev_kMu2, ev_kMu3, ev_kMu4, ev_catM, ev_kCat, ev_kCat2, ev_catR, vw_non, vw_bl, vw_int, vw_str, vw_lst, vw_tup, vw_dct, vw_ref, vwO_lst, vwO_dct, tru_bl, tru_int, tru_lst, tru_tup, tru_non, add_int, add_lst, add_tup, add_str, sub_int, neg_int, gt_int, ge_int, lt_int, le_int, len_lst, len_tup, len_dct, len_str, int_int, tuple_lst, tuple_tup, list_lst, list_tup, sl_lst, sl_tup, is_non, isnt_non, non_bl, non_int, non_str, non_lst, non_tup, non_non, int_int?, ref_ref?, alt_tup, alt_lst, isi_int_non, isi_int_bl, isi_int_int, isi_int_str, isi_int_lst, isi_int_tup, isi_bool_non, isi_bool_bl, isi_bool_int, isi_bool_str, isi_bool_lst, isi_bool_tup, isi_str_non, isi_str_bl, isi_str_int, isi_str_str, isi_str_lst, isi_str_tup, isi_tuple_non, isi_tuple_bl, isi_tuple_int, isi_tuple_str, isi_tuple_lst, isi_tuple_tup, isi_list_non, isi_list_bl, isi_list_int, isi_list_str, isi_list_lst, isi_list_tup, isi_dict_non, isi_dict_bl, isi_dict_int, isi_dict_str, isi_dict_lst, isi_dict_tup, tyIn_lst2, tyD_lst, tyIn_tup2, tyD_tup, tyIn_str, tyD_str, tyIn_dct, tyD_dct, ev_cStep, ev_kC, ev_kC2T, ev_kC2F, ev_kSome, ev_cStep2, ev_kD, ev_kD2T, ev_kD2F, ev_kD3, ev_lStep, ev_kL, List.getElem?_cons_zero, List.getElem?_cons_succ, Option.join_some, Option.bind_some, Option.map_some, wipeE, List.set_cons_zero, List.set_cons_succ, List.length_cons, List.length_nil, List.map_cons, List.map_nil, gAll, gDef, List.cons_append, List.nil_append, if_true, if_false, Bool.not_true, Bool.not_false, Nat.zero_add, Nat.reduceAdd, Nat.reduceLeDiff, and_true, and_self, true_and, reduceIte, Bool.false_eq_true, $xs,*])
def wordsD (ws : List Str) : D := .tup (ws.map D.str)
open Classical in
theorem in_words (w : Str) (ws : List Str) : inD (.str w) (.tup (ws.map D.str)) = some (.bl (decide (w ∈ ws))) := by
  rw [inD_pn (.inr rfl) ((pk_strsT ws).pn (by omega)) (pn_str w)]
  congr 2
  by_cases h : w ∈ ws
  · rw [decide_eq_true h]; exact decide_eq_true (List.mem_map_of_mem h)
  · rw [decide_eq_false h]; exact decide_eq_false fun z => by
      obtain ⟨x, hx, e⟩ := List.mem_map.mp z
      cases e
      exact h hx
open Classical in
theorem notin_words (w : Str) (ws : List Str) : notInD (.str w) (.tup (ws.map D.str)) = some (.bl (!decide (w ∈ ws))) := by
  rw [notInD_pn (.inr rfl) ((pk_strsT ws).pn (by omega)) (pn_str w)]
  congr 3
  by_cases h : w ∈ ws
  · rw [decide_eq_true h]; exact decide_eq_true (List.mem_map_of_mem h)
  · rw [decide_eq_false h]; exact decide_eq_false fun z => by
      obtain ⟨x, hx, e⟩ := List.mem_map.mp z
      cases e
      exact h hx
/-- the word of a deed is one of these -/
theorem dec_in (w : Str) (ws : List Str) [inst : Decidable (w ∈ ws)] : @decide (w ∈ ws) inst = ws.contains w := by
  rw [Bool.eq_iff_iff, decide_eq_true_iff, List.contains_iff_mem]
def SpIsTrue (F : Fn) : Prop := ∀ (w : Deed) (g : Int) (S : Sto), w.isLook = true → F [.str w.word, .int g] S = .ok (.bl (truth w g)) S
def W_eq : List Str := ["same", "agree"]
def W_ord : List Str := ["newer", "elder"]
def W_cnt : List Str := ["same", "other"]
def W_look : List Str := ["same", "other", "agree", "differ", "newer", "elder"]
theorem gtD_int (i j : Int) : gtD (.int i) (.int j) = some (.bl (decide (j < i))) := rfl
theorem is_true_ok : SpIsTrue (dBody false 2 (B_is_true (wordsD W_eq) (wordsD W_ord))) := by
  intro w g S hw
  show doneR false S (B_is_true (wordsD W_eq) (wordsD W_ord) [some (.str w.word), some (.int g)] S) = _
  simp_arith only [B_is_true, wordsD, in_words, dec_in]
  cases w <;> first | (simp [Deed.isLook] at hw; done) | (
    simp_arith only [Deed.word, show W_ord.contains (Str.ofString "same") = false by decide +kernel, show W_ord.contains (Str.ofString "other") = false by decide +kernel, show W_ord.contains (Str.ofString "agree") = false by decide +kernel, show W_ord.contains (Str.ofString "differ") = false by decide +kernel, show W_ord.contains (Str.ofString "newer") = true by decide +kernel, show W_ord.contains (Str.ofString "elder") = true by decide +kernel, show W_eq.contains (Str.ofString "same") = true by decide +kernel, show W_eq.contains (Str.ofString "other") = false by decide +kernel, show W_eq.contains (Str.ofString "agree") = true by decide +kernel, show W_eq.contains (Str.ofString "differ") = false by decide +kernel, in_words, dec_in, eqD_int, gtD_int, eqD_str, eqD_bl, done_eq, truth]
    try simp only [show ((Str.ofString "elder" == Str.ofString "newer")) = false by decide +kernel, beq_self_eq_true]
    try (congr 2; generalize (decide (0 < g)) = b; cases b <;> rfl)
    try (congr 2; generalize (g == 0) = b; cases b <;> rfl))

/-! ## the gap of a look -/
def SpGap (F : Fn) : Prop := ∀ (p : Pg) (s : St) (w : Deed) (S : Sto), p.Ok → s.Ok p → p.okD w → w.isLook = true → F [p.d, s.d, w.d] S = .ok (.int (gap p s w)) S
theorem get_stamp {p : Pg} {s : St} (so : s.Ok p) {x : Str} (h : p.hasS x) : (s.st.map D.int)[p.si x]? = some (.int (stampOf p s x)) := get_int (by rw [so.st]; exact si_lt h)
theorem get_count {p : Pg} {s : St} (ok : p.Ok) (so : s.Ok p) {x : Str} (h : p.hasS x) : (s.ct.map D.int)[p.ci (p.own x)]? = some (.int (countOf p s x)) := get_int (by rw [so.ct]; exact ci_lt (own_mem ok h))
theorem stD (s : St) : s.d = .tup [.tup (s.pl.map D.int), .tup (s.ct.map D.int), .tup (s.st.map D.int)] := rfl
theorem look_gap_ok {F1 F2 : Fn} (h1 : SpOwner F1) (h2 : SpSlot F2) : SpGap (dBody false 7 (B_look_gap F1 F2 (wordsD W_cnt))) := by
  intro p s w S ok so hw hl
  show doneR false S (B_look_gap F1 F2 (wordsD W_cnt) [some p.d, some s.d, some w.d, none, none, none, none] S) = _
  have one : ∀ x, p.hasS x → F1 [p.d, .str x] S = .ok (.int (p.ci (p.own x))) S := fun x hx => h1 p x S ok hx
  have two : ∀ x, p.hasS x → F2 [p.d, .str x] S = .ok (.int (p.si x)) S := fun x hx => h2 p x S ok hx
  have k1 : W_cnt.contains (Str.ofString "same") = true := by decide +kernel
  have k2 : W_cnt.contains (Str.ofString "other") = true := by decide +kernel
  have k3 : W_cnt.contains (Str.ofString "agree") = false := by decide +kernel
  have k4 : W_cnt.contains (Str.ofString "differ") = false := by decide +kernel
  have k5 : W_cnt.contains (Str.ofString "newer") = false := by decide +kernel
  have k6 : W_cnt.contains (Str.ofString "elder") = false := by decide +kernel
  cases w with
  | same x =>
    have hx : p.hasS x := hw
    simp_arith only [B_look_gap, wordsD, Deed.d, Deed.word, Deed.args, stD, one x hx, two x hx, in_words, dec_in, k1, ixD_tup, atI_0, atI_1, atI_nat (get_stamp so hx), atI_nat (get_count ok so hx), done_eq, gap]
  | other x =>
    have hx : p.hasS x := hw
    simp_arith only [B_look_gap, wordsD, Deed.d, Deed.word, Deed.args, stD, one x hx, two x hx, in_words, dec_in, k2, ixD_tup, atI_0, atI_1, atI_nat (get_stamp so hx), atI_nat (get_count ok so hx), done_eq, gap]
  | agree x y =>
    have hx : p.hasS x := hw.1
    have hy : p.hasS y := hw.2
    simp_arith only [B_look_gap, wordsD, Deed.d, Deed.word, Deed.args, stD, two x hx, two y hy, in_words, dec_in, k3, ixD_tup, atI_0, atI_1, atI_2, atI_nat (get_stamp so hx), atI_nat (get_stamp so hy), done_eq, gap]
  | differ x y =>
    have hx : p.hasS x := hw.1
    have hy : p.hasS y := hw.2
    simp_arith only [B_look_gap, wordsD, Deed.d, Deed.word, Deed.args, stD, two x hx, two y hy, in_words, dec_in, k4, ixD_tup, atI_0, atI_1, atI_2, atI_nat (get_stamp so hx), atI_nat (get_stamp so hy), done_eq, gap]
  | newer x y =>
    have hx : p.hasS x := hw.1
    have hy : p.hasS y := hw.2
    simp_arith only [B_look_gap, wordsD, Deed.d, Deed.word, Deed.args, stD, two x hx, two y hy, in_words, dec_in, k5, ixD_tup, atI_0, atI_1, atI_2, atI_nat (get_stamp so hx), atI_nat (get_stamp so hy), done_eq, gap]
  | elder x y =>
    have hx : p.hasS x := hw.1
    have hy : p.hasS y := hw.2
    simp_arith only [B_look_gap, wordsD, Deed.d, Deed.word, Deed.args, stD, two x hx, two y hy, in_words, dec_in, k6, ixD_tup, atI_0, atI_1, atI_2, atI_nat (get_stamp so hx), atI_nat (get_stamp so hy), done_eq, gap]
  | _ => simp [Deed.isLook] at hl
/-! ## can it come -/
theorem arw_ok {p : Pg} (ok : p.Ok) {e : Ev} {a : Arw} (hn : e.1 ∈ p.ps.map (·.1)) (ha : p.arw e = some a) : p.okD a.w ∧ 0 ≤ a.p ∧ a.p ≤ 100 ∧ 0 ≤ a.q ∧ a.q ≤ 100 := by
  obtain ⟨as, g1, g2⟩ := arw_get hn ha
  exact ok.deeds _ (List.mem_of_getElem? g1) a (List.mem_of_getElem? g2)
def SpCan (F : Fn) : Prop := ∀ (p : Pg) (s : St) (e : Ev) (a : Arw) (S : Sto), p.Ok → s.Ok p → e.1 ∈ p.ps.map (·.1) → p.arw e = some a → F [p.d, s.d, evD e] S = .ok (.bl (canCome p s e a)) S
theorem look_words (w : Deed) : W_look.contains w.word = w.isLook := by cases w <;> first | (simp only [Deed.word, Deed.isLook]; decide +kernel)
theorem truth_nolook {w : Deed} (g : Int) (h : w.isLook = false) : truth w g = true := by cases w <;> simp_all [Deed.isLook, truth]
theorem can_come_ok {F1 F2 F3 F4 : Fn} (h1 : SpArrow F1) (h2 : SpIsTrue F2) (h3 : SpGap F3) (h4 : SpStands F4) : SpCan (dBody false 4 (B_can_come F1 F2 F3 F4 (wordsD W_look))) := by
  intro p s e a S ok so hn ha
  show doneR false S (B_can_come F1 F2 F3 F4 (wordsD W_look) [some p.d, some s.d, some (evD e), none] S) = _
  have aw := (arw_ok ok hn ha).1
  have ad : a.d = .tup [.int a.p, .tup (.str a.w.word :: a.w.args), .int a.q] := rfl
  have wd : a.w.d = .tup (.str a.w.word :: a.w.args) := rfl
  have e1 := h1 p e a S ok hn ha
  have e4 := h4 p s e a S ok so hn ha
  rw [ad] at e1
  cases hs : stands p s e a with
  | false =>
    rw [hs] at e4
    simp_arith only [B_can_come, wordsD, e1, e4, ixD_tup, atI_1, done_eq, canCome, hs, Bool.false_and]
  | true =>
    rw [hs] at e4
    cases hl : a.w.isLook with
    | false =>
      simp_arith only [B_can_come, wordsD, e1, e4, ixD_tup, atI_0, atI_1, notin_words, dec_in, look_words, hl, done_eq, canCome, hs, truth_nolook _ hl, Bool.and_self]
    | true =>
      have e3 := h3 p s a.w S ok so aw hl
      rw [wd] at e3
      have e2 := h2 a.w (gap p s a.w) S hl
      simp_arith only [B_can_come, wordsD, e1, e4, e3, e2, ixD_tup, atI_0, atI_1, notin_words, dec_in, look_words, hl, done_eq, canCome, hs, Bool.true_and]
end SS
end

section
set_option Elab.async false
set_option linter.all false
set_option maxRecDepth 100000
set_option autoImplicit false
set_option maxHeartbeats 4000000
namespace SS
open PySem PySem.Spec PyProof.Rows L2 FL
local macro_rules
  | `(tactic| simp_arith only [$xs,*]) => `(tactic| simp (config := { implicitDefEqProofs := false }) only [tn_ok, oR_some, nx_ok, ev_var, ev_c, ev_bin, ev_kBin1, ev_kBin2, ev_un, ev_kUn, ev_asB, ev_kB, ev_asT, ev_kT, ev_tAnd2, ev_kAndT, ev_kAndF, ev_tOr2, ev_kOrT, ev_kOrF, ev_not, ev_kNot, ev_eAnd2, ev_kAndE, ev_kAndET, ev_kAndEF, ev_eOr2, ev_kOrE, ev_kOrET, ev_kOrEF, ev_eNot1, ev_kNotE, ev_kNotE2, ev_if, ev_kIfT, ev_kIfF, ev_aNil, ev_aCons, ev_kCons, ev_kCons2, ev_aStar, ev_kStar, ev_kStar2, ev_kStar3, ev_eTup, ev_kTup, ev_kTup2, ev_eLst, ev_kLst, ev_kLst2, ev_eNewL, ev_kNewL, ev_kNewL2, ev_newD, ev_callP, ev_kCallP, ev_call, ev_kCall, ev_kCall2, ev_oNone, ev_oSome, ev_kO, ev_kO2, ev_sl, ev_kSl, ev_kSl2, ev_kSl3, ev_meth, ev_kM, ev_kM2, ev_kM3, ev_meth0, ev_kM0, ev_chain, ev_kCh, ev_kCh2, ev_kCh3T, ev_kCh3F, ev_kCh4, ev_kLs, ev_kComp, ev_comp, ev_kRef, ev_compM, ev_kComp2, ev_comp2, ev_iSeq, ev_kIt, ev_iRange, ev_kRg, ev_enT, ev_enL, ev_iEnum, items_lst, items_tup, items_str, ev_true, ev_ret, ev_kRet, ev_expr, ev_kEx, ev_asg, ev_kAsg, ev_kNx, ev_seq, ev_kSeqN, ev_kSeqR, ev_kSeqB, ev_kSeqC, ev_ifS, ev_kIfST, ev_kIfSF, ev_for, ev_kFor, ev_next, ev_retN, ev_break, ev_cont, ev_par, ev_kPar, ev_par3, ev_kPar3, ev_gName, ev_gTup, ev_gsNil, ev_gsCons, ev_kGs, ev_gSub, ev_kSub, ev_kSub2, ev_kSub3, ev_kSub4, ev_mut, ev_kMu, ev_kMu2, ev_kMu3, ev_kMu4, ev_catM, ev_kCat, ev_kCat2, ev_catR, vw_non, vw_bl, vw_int, vw_str, vw_lst, vw_tup, vw_dct, vw_ref, vwO_lst, vwO_dct, tru_bl, tru_int, tru_lst, tru_tup, tru_non, add_int, add_lst, add_tup, add_str, sub_int, neg_int, gt_int, ge_int, lt_int, le_int, len_lst, len_tup, len_dct, len_str, int_int, tuple_lst, tuple_tup, list_lst, list_tup, sl_lst, sl_tup, is_non, isnt_non, non_bl, non_int, non_str, non_lst, non_tup, non_non, int_int?, ref_ref?, alt_tup, alt_lst, isi_int_non, isi_int_bl, isi_int_int, isi_int_str, isi_int_lst, isi_int_tup, isi_bool_non, isi_bool_bl, isi_bool_int, isi_bool_str, isi_bool_lst, isi_bool_tup, isi_str_non, isi_str_bl, isi_str_int, isi_str_str, isi_str_lst, isi_str_tup, isi_tuple_non, isi_tuple_bl, isi_tuple_int, isi_tuple_str, isi_tuple_lst, isi_tuple_tup, isi_list_non, isi_list_bl, isi_list_int, isi_list_str, isi_list_lst, isi_list_tup, isi_dict_non, isi_dict_bl, isi_dict_int, isi_dict_str, isi_dict_lst, isi_dict_tup, tyIn_lst2, tyD_lst, tyIn_tup2, tyD_tup, tyIn_str, tyD_str, tyIn_dct, tyD_dct, ev_cStep, ev_kC, ev_kC2T, ev_kC2F, ev_kSome, ev_cStep2, ev_kD, ev_kD2T, ev_kD2F, ev_kD3, ev_lStep, ev_kL, List.getElem?_cons_zero, List.getElem?_cons_succ, Option.join_some, Option.bind_some, Option.map_some, wipeE, List.set_cons_zero, List.set_cons_succ, List.length_cons, List.length_nil, List.map_cons, List.map_nil, gAll, gDef, List.cons_append, List.nil_append, if_true, if_false, Bool.not_true, Bool.not_false, Nat.zero_add, Nat.reduceAdd, Nat.reduceLeDiff, and_true, and_self, true_and, reduceIte, Bool.false_eq_true, $xs,*])
def SpPut (F : Fn) : Prop := ∀ (xs : List Int) (i : Nat) (v : Int) (S : Sto), i < xs.length → xs.length ≤ 1000 → F [intsD xs, .int i, .int v] S = .ok (intsD (xs.set i v)) S
theorem put_split (xs : List Int) (i : Nat) (v : Int) (h : i < xs.length) : (xs.map D.int).take i ++ D.int v :: (xs.map D.int).drop (i + 1) = (xs.set i v).map D.int := by
  rw [set_split _ _ _ (by simpa using h), List.map_set]
theorem put_at_ok : SpPut (dBody false 3 B_put_at) := by
  intro xs i v S hi hl
  show doneR false S (B_put_at [some (intsD xs), some (.int i), some (.int v)] S) = _
  have e1 := cut_take (xs.map D.int) i (by simp; omega)
  have e2 := cut_drop (xs.map D.int) (i + 1) (by simp; omega)
  rw [show ((i + 1 : Nat) : Int) = (i : Int) + 1 by omega] at e2
  simp_arith only [B_put_at, intsD, e1, e2, List.append_nil, put_split xs i v hi, few_ok (show ((xs.set i v).map D.int).length ≤ 1000000 by simp; omega), done_eq]
/-! ## the state behind an event -/
def SpBehind (F : Fn) : Prop := ∀ (p : Pg) (s : St) (e : Ev) (a : Arw) (S : Sto), p.Ok → s.Ok p → e.1 ∈ p.ps.map (·.1) → p.arw e = some a → F [p.d, s.d, evD e] S = .ok (after p s e a).d S
theorem get_ct {p : Pg} {s : St} (so : s.Ok p) {c : Str} (h : c ∈ p.cs) : (s.ct.map D.int)[p.ci c]? = some (.int (s.ct.getD (p.ci c) 0)) := get_int (by rw [so.ct]; exact ci_lt h)
theorem beq_words {a b : String} (h : (Str.ofString a == Str.ofString b) = false) : (Str.ofString a == Str.ofString b) = false := h
theorem addD_int (i j : Int) : addD (.int i) (.int j) = some (.int (i + j)) := rfl
theorem state_behind_ok {F1 F2 F3 F4 F5 : Fn} (h1 : SpArrow F1) (h2 : SpOwner F2) (h3 : SpSpot F3) (h4 : SpPut F4) (h5 : SpSlot F5) : SpBehind (dBody false 10 (B_state_behind F1 F2 F3 F4 F5)) := by
  intro p s e a S ok so hn ha
  show doneR false S (B_state_behind F1 F2 F3 F4 F5 [some p.d, some s.d, some (evD e), none, none, none, none, none, none, none] S) = _
  obtain ⟨aw, ap1, ap2, aq1, aq2⟩ := arw_ok ok hn ha
  have ad : a.d = .tup [.int a.p, .tup (.str a.w.word :: a.w.args), .int a.q] := rfl
  have e1 := h1 p e a S ok hn ha
  rw [ad] at e1
  have e3 := h3 p e.1 S ok hn
  have lp := ok.lenP
  have ls := ok.lenS
  have lc := ok.lenC
  have e4 := h4 s.pl (p.pi e.1) a.q S (by rw [so.pl]; exact pi_lt hn) (by rw [so.pl]; omega)
  have putS : ∀ x v, p.hasS x → F4 [intsD s.st, .int (p.si x), .int v] S = .ok (intsD (s.st.set (p.si x) v)) S := fun x v hx => h4 s.st (p.si x) v S (by rw [so.st]; exact si_lt hx) (by rw [so.st]; omega)
  have putC : ∀ c v, c ∈ p.cs → F4 [intsD s.ct, .int (p.ci c), .int v] S = .ok (intsD (s.ct.set (p.ci c) v)) S := fun c v hc => h4 s.ct (p.ci c) v S (by rw [so.ct]; exact ci_lt hc) (by rw [so.ct]; omega)
  have two : ∀ x, p.hasS x → F5 [p.d, .str x] S = .ok (.int (p.si x)) S := fun x hx => h5 p x S ok hx
  have own : ∀ x, p.hasS x → F2 [p.d, .str x] S = .ok (.int (p.ci (p.own x))) S := fun x hx => h2 p x S ok hx
  have fw : ∀ x y z : D, few [x, y, z] = some [x, y, z] := fun x y z => few_ok (by simp)
  have evd : evD e = .tup [.str e.1, .int e.2] := rfl
  rw [evd] at e1 ⊢
  unfold intsD at e4 putS putC
  have plain : (a.w.word == Str.ofString "rise") = false → (a.w.word == Str.ofString "keep") = false → (a.w.word == Str.ofString "copy") = false → after p s e a = ⟨s.pl.set (p.pi e.1) a.q, s.ct, s.st⟩ →
      doneR false S (B_state_behind F1 F2 F3 F4 F5 [some p.d, some s.d, some (.tup [.str e.1, .int e.2]), none, none, none, none, none, none, none] S) = .ok (after p s e a).d S := by
    intro n1 n2 n3 hq
    rw [hq]
    simp_arith only [B_state_behind, stD, e1, e3, e4, ixD_tup, atI_0, atI_1, atI_2, eqD_str, n1, n2, n3, fw, done_eq, intsD]
  cases hw : a.w with
  | rise c n =>
    rw [hw] at aw e1
    have hc : c ∈ p.cs := aw.1
    have ic : indexD (.tup (p.cs.map D.str)) [.str c] = some (.int (p.ci c)) := index_tup hc
    have pc := putC c (s.ct.getD (p.ci c) 0 + n) hc
    rw [pgD] at e1 e3 ⊢
    simp_arith only [B_state_behind, Deed.d, Deed.word, Deed.args, stD, e1, e3, e4, ic, pc, ixD_tup, atI_0, atI_1, atI_2, atI_nat (get_ct so hc), addD_int, eqD_str, beq_self_eq_true, fw, done_eq, after, hw, intsD]
  | keep x =>
    rw [hw] at aw e1
    have hx : p.hasS x := aw
    have n1 : (Str.ofString "keep" == Str.ofString "rise") = false := by decide +kernel
    simp_arith only [B_state_behind, Deed.d, Deed.word, Deed.args, stD, e1, e3, e4, n1, putS x _ hx, two x hx, own x hx, ixD_tup, atI_0, atI_1, atI_2, atI_nat (get_count ok so hx), eqD_str, beq_self_eq_true, fw, done_eq, after, hw, intsD]
  | copy x y =>
    rw [hw] at aw e1
    have hx : p.hasS x := aw.1
    have hy : p.hasS y := aw.2
    have n1 : (Str.ofString "copy" == Str.ofString "rise") = false := by decide +kernel
    have n2 : (Str.ofString "copy" == Str.ofString "keep") = false := by decide +kernel
    simp_arith only [B_state_behind, Deed.d, Deed.word, Deed.args, stD, e1, e3, e4, n1, n2, putS x _ hx, two x hx, two y hy, ixD_tup, atI_0, atI_1, atI_2, atI_nat (get_stamp so hy), eqD_str, beq_self_eq_true, fw, done_eq, after, hw, intsD]
  | spare c n => exact plain (by rw [hw]; show (Str.ofString "spare" == Str.ofString "rise") = false; decide +kernel) (by rw [hw]; show (Str.ofString "spare" == Str.ofString "keep") = false; decide +kernel) (by rw [hw]; show (Str.ofString "spare" == Str.ofString "copy") = false; decide +kernel) (by unfold after; rw [hw])
  | same x => exact plain (by rw [hw]; show (Str.ofString "same" == Str.ofString "rise") = false; decide +kernel) (by rw [hw]; show (Str.ofString "same" == Str.ofString "keep") = false; decide +kernel) (by rw [hw]; show (Str.ofString "same" == Str.ofString "copy") = false; decide +kernel) (by unfold after; rw [hw])
  | other x => exact plain (by rw [hw]; show (Str.ofString "other" == Str.ofString "rise") = false; decide +kernel) (by rw [hw]; show (Str.ofString "other" == Str.ofString "keep") = false; decide +kernel) (by rw [hw]; show (Str.ofString "other" == Str.ofString "copy") = false; decide +kernel) (by unfold after; rw [hw])
  | agree x y => exact plain (by rw [hw]; show (Str.ofString "agree" == Str.ofString "rise") = false; decide +kernel) (by rw [hw]; show (Str.ofString "agree" == Str.ofString "keep") = false; decide +kernel) (by rw [hw]; show (Str.ofString "agree" == Str.ofString "copy") = false; decide +kernel) (by unfold after; rw [hw])
  | differ x y => exact plain (by rw [hw]; show (Str.ofString "differ" == Str.ofString "rise") = false; decide +kernel) (by rw [hw]; show (Str.ofString "differ" == Str.ofString "keep") = false; decide +kernel) (by rw [hw]; show (Str.ofString "differ" == Str.ofString "copy") = false; decide +kernel) (by unfold after; rw [hw])
  | newer x y => exact plain (by rw [hw]; show (Str.ofString "newer" == Str.ofString "rise") = false; decide +kernel) (by rw [hw]; show (Str.ofString "newer" == Str.ofString "keep") = false; decide +kernel) (by rw [hw]; show (Str.ofString "newer" == Str.ofString "copy") = false; decide +kernel) (by unfold after; rw [hw])
  | elder x y => exact plain (by rw [hw]; show (Str.ofString "elder" == Str.ofString "rise") = false; decide +kernel) (by rw [hw]; show (Str.ofString "elder" == Str.ofString "keep") = false; decide +kernel) (by rw [hw]; show (Str.ofString "elder" == Str.ofString "copy") = false; decide +kernel) (by unfold after; rw [hw])
  | doo x => exact plain (by rw [hw]; show (Str.ofString "do" == Str.ofString "rise") = false; decide +kernel) (by rw [hw]; show (Str.ofString "do" == Str.ofString "keep") = false; decide +kernel) (by rw [hw]; show (Str.ofString "do" == Str.ofString "copy") = false; decide +kernel) (by unfold after; rw [hw])
theorem after_ok {p : Pg} {s : St} (so : s.Ok p) (e : Ev) (a : Arw) : (after p s e a).Ok p := by
  refine ⟨by simp [after, so.pl], ?_, ?_⟩
  · unfold after
    cases a.w <;> simp [so.ct]
  · unfold after
    cases a.w <;> simp [so.st]
theorem begun_ok (p : Pg) : p.begun.Ok p := ⟨by simp [Pg.begun], by simp [Pg.begun], by simp [Pg.begun]⟩
/-! ## events that can come -/
theorem evs_mem {p : Pg} {e : Ev} (ok : p.Ok) (h : e ∈ p.evs) : e.1 ∈ p.ps.map (·.1) ∧ ∃ a, p.arw e = some a := by
  unfold Pg.evs at h
  obtain ⟨q, hq, h⟩ := List.mem_flatMap.mp h
  obtain ⟨k, hk, rfl⟩ := List.mem_map.mp h
  have hn : q.1 ∈ p.ps.map (·.1) := List.mem_map_of_mem hq
  refine ⟨hn, ?_⟩
  obtain ⟨as, g⟩ := pi_get hn
  have eq : (q.1, as) = q := by
    have nd := ok.ndP
    obtain ⟨i, hi⟩ := List.getElem?_of_mem hq
    have g1 : (p.ps.map (·.1))[i]? = some q.1 := by rw [List.getElem?_map, hi]; rfl
    have g2 : (p.ps.map (·.1))[p.pi q.1]? = some q.1 := by rw [List.getElem?_map, g]; rfl
    obtain ⟨l1, f1⟩ := List.getElem?_eq_some_iff.mp g1
    obtain ⟨l2, f2⟩ := List.getElem?_eq_some_iff.mp g2
    have : i = p.pi q.1 := (List.getElem_inj nd).mp (f1.trans f2.symm)
    rw [← this, hi] at g
    exact (Option.some.inj g).symm
  have hl : k < q.2.length := by simpa using hk
  rw [← eq] at hl
  unfold Pg.arw
  rw [g]
  exact ⟨as[k], List.getElem?_eq_getElem hl⟩
def SpIn (F : Fn) : Prop := ∀ (p : Pg) (s : St) (S : Sto), p.Ok → s.Ok p → F [p.d, s.d] S = .ok (.tup ((p.evs.filter (canE p s)).map evD)) S
theorem events_in_ok {F1 F2 : Fn} (h1 : SpAll F1) (h2 : SpCan F2) : SpIn (dBody false 3 (B_events_in F1 F2)) := by
  intro p s S ok so
  show doneR false S (B_events_in F1 F2 [some p.d, some s.d, none] S) = _
  simp_arith only [B_events_in, h1 p S ok]
  rw [compD_filter evD (canE p s) p.evs (fun e he => ?_) (by have := len_evs ok; omega)]
  · simp_arith only [done_eq]
  · obtain ⟨hn, a, ha⟩ := evs_mem ok he
    have e2 := h2 p s e a S ok so hn ha
    have ec : canE p s e = canCome p s e a := by unfold canE; rw [ha]
    rw [ec]
    simp_arith only [e2]
    cases canCome p s e a <;> rfl
end SS
end

section
set_option Elab.async false
set_option linter.all false
set_option maxRecDepth 100000
set_option autoImplicit false
set_option maxHeartbeats 4000000
namespace SS
open PySem PySem.Spec PyProof.Rows L2 FL
local macro_rules
  | `(tactic| simp_arith only [$xs,*]) => `(tactic| simp (config := { implicitDefEqProofs := false }) only [tn_ok, oR_some, nx_ok, ev_var, ev_c, ev_bin, ev_kBin1, ev_kBin2, ev_un, ev_kUn, ev_asB, ev_kB, ev_asT, ev_kT, ev_tAnd2, ev_kAndT, ev_kAndF, ev_tOr2, ev_kOrT, ev_kOrF, ev_not, ev_kNot, ev_eAnd2, ev_kAndE, ev_kAndET, ev_kAndEF, ev_eOr2, ev_kOrE, ev_kOrET, ev_kOrEF, ev_eNot1, ev_kNotE, ev_kNotE2, ev_if, ev_kIfT, ev_kIfF, ev_aNil, ev_aCons, ev_kCons, ev_kCons2, ev_aStar, ev_kStar, ev_kStar2, ev_kStar3, ev_eTup, ev_kTup, ev_kTup2, ev_eLst, ev_kLst, ev_kLst2, ev_eNewL, ev_kNewL, ev_kNewL2, ev_newD, ev_callP, ev_kCallP, ev_call, ev_kCall, ev_kCall2, ev_oNone, ev_oSome, ev_kO, ev_kO2, ev_sl, ev_kSl, ev_kSl2, ev_kSl3, ev_meth, ev_kM, ev_kM2, ev_kM3, ev_meth0, ev_kM0, ev_chain, ev_kCh, ev_kCh2, ev_kCh3T, ev_kCh3F, ev_kCh4, ev_kLs, ev_kComp, ev_comp, ev_kRef, ev_compM, ev_kComp2, ev_comp2, ev_iSeq, ev_kIt, ev_iRange, ev_kRg, ev_enT, ev_enL, ev_iEnum, items_lst, items_tup, items_str, ev_true, ev_ret, ev_kRet, ev_expr, ev_kEx, ev_asg, ev_kAsg, ev_kNx, ev_seq, ev_kSeqN, ev_kSeqR, ev_kSeqB, ev_kSeqC, ev_ifS, ev_kIfST, ev_kIfSF, ev_for, ev_kFor, ev_next, ev_retN, ev_break, ev_cont, ev_par, ev_kPar, ev_par3, ev_kPar3, ev_gName, ev_gTup, ev_gsNil, ev_gsCons, ev_kGs, ev_gSub, ev_kSub, ev_kSub2, ev_kSub3, ev_kSub4, ev_mut, ev_kMu, ev_kMu2, ev_kMu3, ev_kMu4, ev_catM, ev_kCat, ev_kCat2, ev_catR, vw_non, vw_bl, vw_int, vw_str, vw_lst, vw_tup, vw_dct, vw_ref, vwO_lst, vwO_dct, tru_bl, tru_int, tru_lst, tru_tup, tru_non, add_int, add_lst, add_tup, add_str, sub_int, neg_int, gt_int, ge_int, lt_int, le_int, len_lst, len_tup, len_dct, len_str, int_int, tuple_lst, tuple_tup, list_lst, list_tup, sl_lst, sl_tup, is_non, isnt_non, non_bl, non_int, non_str, non_lst, non_tup, non_non, int_int?, ref_ref?, alt_tup, alt_lst, isi_int_non, isi_int_bl, isi_int_int, isi_int_str, isi_int_lst, isi_int_tup, isi_bool_non, isi_bool_bl, isi_bool_int, isi_bool_str, isi_bool_lst, isi_bool_tup, isi_str_non, isi_str_bl, isi_str_int, isi_str_str, isi_str_lst, isi_str_tup, isi_tuple_non, isi_tuple_bl, isi_tuple_int, isi_tuple_str, isi_tuple_lst, isi_tuple_tup, isi_list_non, isi_list_bl, isi_list_int, isi_list_str, isi_list_lst, isi_list_tup, isi_dict_non, isi_dict_bl, isi_dict_int, isi_dict_str, isi_dict_lst, isi_dict_tup, tyIn_lst2, tyD_lst, tyIn_tup2, tyD_tup, tyIn_str, tyD_str, tyIn_dct, tyD_dct, ev_cStep, ev_kC, ev_kC2T, ev_kC2F, ev_kSome, ev_cStep2, ev_kD, ev_kD2T, ev_kD2F, ev_kD3, ev_lStep, ev_kL, List.getElem?_cons_zero, List.getElem?_cons_succ, Option.join_some, Option.bind_some, Option.map_some, wipeE, List.set_cons_zero, List.set_cons_succ, List.length_cons, List.length_nil, List.map_cons, List.map_nil, gAll, gDef, List.cons_append, List.nil_append, if_true, if_false, Bool.not_true, Bool.not_false, Nat.zero_add, Nat.reduceAdd, Nat.reduceLeDiff, and_true, and_self, true_and, reduceIte, Bool.false_eq_true, $xs,*])
/-! ## kinds -/
def SpInt (F : Fn) : Prop := ∀ (i : Int) (S : Sto), F [.int i] S = .ok (.bl true) S
theorem is_integer_ok : SpInt (dBody false 1 B_is_integer) := by
  intro i S
  show doneR false S (B_is_integer [some (.int i)] S) = _
  simp_arith only [B_is_integer, done_eq]
def SpNum (F : Fn) : Prop := ∀ (i : Int) (S : Sto), F [.int i] S = .ok (.bl (decide (0 ≤ i))) S
theorem is_number_ok {F1 : Fn} (h1 : SpInt F1) : SpNum (dBody false 1 (B_is_number F1)) := by
  intro i S
  show doneR false S (B_is_number F1 [some (.int i)] S) = _
  simp_arith only [B_is_number, h1 i S, done_eq]
def letters : Str := "abcdefghijklmnopqrstuvwxyz"
def SpName (F : Fn) : Prop := ∀ (n : Str) (S : Sto), okN n → F [.str n] S = .ok (.bl true) S
theorem in_letters {c : Nat} (h1 : 97 ≤ c) (h2 : c ≤ 122) : inD (.str ⟨#[c]⟩) (.str letters) = some (.bl true) := by
  have : ∀ k : Fin 26, inD (.str ⟨#[97 + k.val]⟩) (.str letters) = some (.bl true) := by
    intro k
    have q : ∀ k : Fin 26, inB (.str ⟨#[97 + k.val]⟩) (.str letters) = some true := by decide +kernel
    unfold inD
    rw [q k]
    rfl
  have e := this ⟨c - 97, by omega⟩
  have : 97 + (c - 97) = c := by omega
  simp only [this] at e
  exact e
theorem allQ_bl : ∀ bs : List Bool, allQ D.bl? (bs.map D.bl) = some bs
  | [] => rfl
  | b :: bs => by
    rw [List.map_cons]
    unfold allQ
    rw [allQ_bl bs]
    rfl
theorem all_bl (bs : List Bool) : allD [.lst (bs.map D.bl)] = some (.bl (bs.all id)) := by
  simp only [allD, one, on1, D.lst?, allQ_bl, Option.map_some]
theorem any_bl (bs : List Bool) : anyD [.lst (bs.map D.bl)] = some (.bl (bs.any id)) := by
  simp only [anyD, one, on1, D.lst?, allQ_bl, Option.map_some]
theorem is_name_ok : SpName (dBody false 2 (B_is_name (.str letters) (.int 8))) := by
  intro n S hn
  show doneR false S (B_is_name (.str letters) (.int 8) [some (.str n), none] S) = _
  obtain ⟨h1, h2, h3⟩ := hn
  have c1 : decide ((1 : Int) ≤ (n.length : Int)) = true := decide_eq_true (by omega)
  have c2 : decide ((n.length : Int) ≤ 8) = true := decide_eq_true (by omega)
  have e := compD_map (S := S) (b := gName' 1) (t := tTrue) (e := eBin inD (eVar 1) (eC (.str letters))) (r0 := [some (.str n), none]) (fun c : Nat => D.str ⟨#[c]⟩) (fun _ => D.bl true) n.cps.toList (fun c hc => by
    simp_arith only [in_letters (h3 c hc).1 (h3 c hc).2]) (by
      have : n.cps.toList.length = n.length := rfl
      omega)
  have e2 : n.cps.toList.map (fun _ => D.bl true) = (n.cps.toList.map fun _ => true).map D.bl := by simp
  have e3 : (n.cps.toList.map fun _ => true).all id = true := by simp
  simp_arith only [B_is_name, cap_ok (show n.length ≤ 1000000 by omega), c1, c2, e, e2, all_bl, e3, done_eq]
/-! ## events of a program -/
def SpEvent (F : Fn) : Prop := ∀ (p : Pg) (e : Ev) (S : Sto), p.Ok → e ∈ p.evs → F [p.d, evD e] S = .ok (.bl true) S
theorem evs_at {p : Pg} {e : Ev} (ok : p.Ok) (h : e ∈ p.evs) : ∃ as, p.ps[p.pi e.1]? = some (e.1, as) ∧ e.2 < as.length := by
  obtain ⟨hn, a, ha⟩ := evs_mem ok h
  obtain ⟨as, g1, g2⟩ := arw_get hn ha
  exact ⟨as, g1, (List.getElem?_eq_some_iff.mp g2).1⟩
open Classical in
theorem in_strs {x : Str} {xs : List Str} (h : x ∈ xs) : inD (.str x) (.lst (xs.map D.str)) = some (.bl true) := by
  rw [inD_pn (.inl rfl) ((pk_strs xs).pn (by omega)) (pn_str x), decide_eq_true (List.mem_map_of_mem h)]
theorem is_event_of_ok {F1 F2 F3 F4 : Fn} (h1 : SpName F1) (h2 : SpNum F2) (h3 : SpNames F3) (h4 : SpSpot F4) : SpEvent (dBody false 2 (B_is_event_of F1 F2 F3 F4)) := by
  intro p e S ok he
  obtain ⟨hn, a, ha⟩ := evs_mem ok he
  obtain ⟨as, g1, g2⟩ := evs_at ok he
  show doneR false S (B_is_event_of F1 F2 F3 F4 [some p.d, some (evD e)] S) = _
  have e1 := h1 e.1 S (ok.names _ (List.mem_of_getElem? g1))
  have e2 := h2 (e.2 : Int) S
  rw [decide_eq_true (by omega : (0 : Int) ≤ (e.2 : Int))] at e2
  have e3 := h3 p S ok
  have e4 := h4 p e.1 S ok hn
  have c1 : ((2 : Nat) : Int) = 2 := rfl
  have c2 : decide ((e.2 : Int) < ((as.map Arw.d).length : Int)) = true := decide_eq_true (by simp; exact g2)
  rw [pgD] at e3 e4 ⊢
  simp_arith only [B_is_event_of, evD, e1, e2, e3, e4, ixD_tup, atI_0, atI_1, atI_2, neD_int, in_strs hn, atI_nat (get_party g1), partyD, c1, c2, beq_self_eq_true, done_eq]
def okRoad (p : Pg) : St → List Ev → Prop
  | _, [] => True
  | s, e :: es => e ∈ p.evs ∧ canE p s e = true ∧ okRoad p (afterE p s e) es
def SpFault (F : Fn) : Prop := ∀ (p : Pg) (s : St) (e : Ev) (S : Sto), p.Ok → s.Ok p → e ∈ p.evs → canE p s e = true → F [p.d, s.d, evD e] S = .ok (.str "") S
theorem fault_in_ok {F1 F2 F3 : Fn} (h1 : SpCan F1) (h2 : SpEvent F2) (h3 : SpStands F3) : SpFault (dBody false 3 (B_fault_in F1 F2 F3)) := by
  intro p s e S ok so he hc
  obtain ⟨hn, a, ha⟩ := evs_mem ok he
  have hc' : canCome p s e a = true := by unfold canE at hc; rw [ha] at hc; exact hc
  have hs : stands p s e a = true := (Bool.and_eq_true_iff.mp hc').1
  have e1 := h1 p s e a S ok so hn ha
  have e2 := h2 p e S ok he
  have e3 := h3 p s e a S ok so hn ha
  rw [hc'] at e1
  rw [hs] at e3
  show doneR false S (B_fault_in F1 F2 F3 [some p.d, some s.d, some (evD e)] S) = _
  simp_arith only [B_fault_in, e1, e2, e3, done_eq]
theorem afterE_eq {p : Pg} {s : St} {e : Ev} {a : Arw} (ha : p.arw e = some a) : afterE p s e = after p s e a := by unfold afterE; rw [ha]
theorem afterE_ok {p : Pg} {s : St} (so : s.Ok p) (e : Ev) : (afterE p s e).Ok p := by
  unfold afterE
  split
  · exact after_ok so _ _
  · exact so
def SpRunFault (F : Fn) : Prop := ∀ (p : Pg) (es : List Ev) (S : Sto), p.Ok → okRoad p p.begun es → F [p.d, .tup (es.map evD)] S = .ok .non S
theorem enum_loop {p : Pg} (ok : p.Ok) {F1 F3 : Fn} (h1 : SpFault F1) (h3 : SpBehind F3) (x1 : D) (S : Sto) :
    ∀ (ds : List (Nat × Ev)) (s : St) (x3 x4 x5 : Option D), s.Ok p → okRoad p s (ds.map (·.2)) → ∃ r', loopD (gTup' 2 (gsCons (gName' 3) (gsCons (gName' 4) gsNil))) (sSeq (sAsg (eCall 3 0 gAll F1 (aCons (eVar 0) (aCons (eVar 2) (aCons (eVar 4) aNil))) aNil) (gName' 5)) (sSeq (sIf (asB (eBin neD (eVar 5) (eC (.str "")))) (sRet (eTup (aCons (eVar 5) (aCons (eVar 3) aNil)))) sNext) (sAsg (eCall 3 0 gAll F3 (aCons (eVar 0) (aCons (eVar 2) (aCons (eVar 4) aNil))) aNil) (gName' 2))))
      (ds.map fun q => .tup [.int (q.1 : Nat), evD q.2]) [some p.d, some x1, some s.d, x3, x4, x5] S = .ok (.nx r') S
  | [], s, x3, x4, x5, _, _ => ⟨_, rfl⟩
  | (k, e) :: ds, s, x3, x4, x5, so, hr => by
    obtain ⟨he, hc, hr⟩ := hr
    obtain ⟨hn, a, ha⟩ := evs_mem ok he
    have e1 := h1 p s e S ok so he hc
    have e3 := h3 p s e a S ok so hn ha
    rw [← afterE_eq ha] at e3
    obtain ⟨r', ih⟩ := enum_loop ok h1 h3 x1 S ds (afterE p s e) (some (.int (k : Nat))) (some (evD e)) (some (.str "")) (afterE_ok so e) hr
    refine ⟨r', ?_⟩
    rw [List.map_cons, loopD_cons]
    have st : lStep (gTup' 2 (gsCons (gName' 3) (gsCons (gName' 4) gsNil))) (sSeq (sAsg (eCall 3 0 gAll F1 (aCons (eVar 0) (aCons (eVar 2) (aCons (eVar 4) aNil))) aNil) (gName' 5)) (sSeq (sIf (asB (eBin neD (eVar 5) (eC (.str "")))) (sRet (eTup (aCons (eVar 5) (aCons (eVar 3) aNil)))) sNext) (sAsg (eCall 3 0 gAll F3 (aCons (eVar 0) (aCons (eVar 2) (aCons (eVar 4) aNil))) aNil) (gName' 2)))) (.tup [.int (k : Nat), evD e]) [some p.d, some x1, some s.d, x3, x4, x5] S = .ok (.nx [some p.d, some x1, some (afterE p s e).d, some (.int (k : Nat)), some (evD e), some (.str "")]) S := by
      simp_arith only [e1, e3, neD_str, beq_self_eq_true]
    simp only [bnd, st]
    exact ih
theorem enum_map (es : List Ev) : enumL (es.map evD) = ((List.range es.length).zip es).map fun q => .tup [.int (q.1 : Nat), evD q.2] := by
  unfold enumL
  rw [List.length_map, List.zipWith_map_right, List.zip, List.map_zipWith]
theorem run_fault_ok {F1 F2 F3 : Fn} (h1 : SpFault F1) (h2 : SpFirst F2) (h3 : SpBehind F3) : SpRunFault (dBody false 6 (B_run_fault F1 F2 F3)) := by
  intro p es S ok hr
  show doneR false S (B_run_fault F1 F2 F3 [some p.d, some (.tup (es.map evD)), none, none, none, none] S) = _
  have z : ((List.range es.length).zip es).map (·.2) = es := List.map_snd_zip (by simp)
  obtain ⟨r', e⟩ := enum_loop ok h1 h3 (.tup (es.map evD)) S ((List.range es.length).zip es) p.begun none none none (begun_ok p) (by rw [z]; exact hr)
  simp_arith only [B_run_fault, h2 p S ok, enum_map, e, done_eq]
def SpRun (F : Fn) : Prop := ∀ (p : Pg) (es : List Ev) (S : Sto), p.Ok → okRoad p p.begun es → F [p.d, .tup (es.map evD)] S = .ok (.bl true) S
theorem is_run_ok {F1 : Fn} (h1 : SpRunFault F1) : SpRun (dBody false 2 (B_is_run F1)) := by
  intro p es S ok hr
  show doneR false S (B_is_run F1 [some p.d, some (.tup (es.map evD))] S) = _
  simp_arith only [B_is_run, h1 p es S ok hr, done_eq]
end SS
end

section
set_option Elab.async false
set_option linter.all false
set_option maxRecDepth 100000
set_option autoImplicit false
set_option maxHeartbeats 4000000
namespace SS
open PySem PySem.Spec PyProof.Rows L2 FL
local macro_rules
  | `(tactic| simp_arith only [$xs,*]) => `(tactic| simp (config := { implicitDefEqProofs := false }) only [tn_ok, oR_some, nx_ok, ev_var, ev_c, ev_bin, ev_kBin1, ev_kBin2, ev_un, ev_kUn, ev_asB, ev_kB, ev_asT, ev_kT, ev_tAnd2, ev_kAndT, ev_kAndF, ev_tOr2, ev_kOrT, ev_kOrF, ev_not, ev_kNot, ev_eAnd2, ev_kAndE, ev_kAndET, ev_kAndEF, ev_eOr2, ev_kOrE, ev_kOrET, ev_kOrEF, ev_eNot1, ev_kNotE, ev_kNotE2, ev_if, ev_kIfT, ev_kIfF, ev_aNil, ev_aCons, ev_kCons, ev_kCons2, ev_aStar, ev_kStar, ev_kStar2, ev_kStar3, ev_eTup, ev_kTup, ev_kTup2, ev_eLst, ev_kLst, ev_kLst2, ev_eNewL, ev_kNewL, ev_kNewL2, ev_newD, ev_callP, ev_kCallP, ev_call, ev_kCall, ev_kCall2, ev_oNone, ev_oSome, ev_kO, ev_kO2, ev_sl, ev_kSl, ev_kSl2, ev_kSl3, ev_meth, ev_kM, ev_kM2, ev_kM3, ev_meth0, ev_kM0, ev_chain, ev_kCh, ev_kCh2, ev_kCh3T, ev_kCh3F, ev_kCh4, ev_kLs, ev_kComp, ev_comp, ev_kRef, ev_compM, ev_kComp2, ev_comp2, ev_iSeq, ev_kIt, ev_iRange, ev_kRg, ev_enT, ev_enL, ev_iEnum, items_lst, items_tup, items_str, ev_true, ev_ret, ev_kRet, ev_expr, ev_kEx, ev_asg, ev_kAsg, ev_kNx, ev_seq, ev_kSeqN, ev_kSeqR, ev_kSeqB, ev_kSeqC, ev_ifS, ev_kIfST, ev_kIfSF, ev_for, ev_kFor, ev_next, ev_retN, ev_break, ev_cont, ev_par, ev_kPar, ev_par3, ev_kPar3, ev_gName, ev_gTup, ev_gsNil, ev_gsCons, ev_kGs, ev_gSub, ev_kSub, ev_kSub2, ev_kSub3, ev_kSub4, ev_mut, ev_kMu, ev_kMu2, ev_kMu3, ev_kMu4, ev_catM, ev_kCat, ev_kCat2, ev_catR, vw_non, vw_bl, vw_int, vw_str, vw_lst, vw_tup, vw_dct, vw_ref, vwO_lst, vwO_dct, tru_bl, tru_int, tru_lst, tru_tup, tru_non, add_int, add_lst, add_tup, add_str, sub_int, neg_int, gt_int, ge_int, lt_int, le_int, len_lst, len_tup, len_dct, len_str, int_int, tuple_lst, tuple_tup, list_lst, list_tup, sl_lst, sl_tup, is_non, isnt_non, non_bl, non_int, non_str, non_lst, non_tup, non_non, int_int?, ref_ref?, alt_tup, alt_lst, isi_int_non, isi_int_bl, isi_int_int, isi_int_str, isi_int_lst, isi_int_tup, isi_bool_non, isi_bool_bl, isi_bool_int, isi_bool_str, isi_bool_lst, isi_bool_tup, isi_str_non, isi_str_bl, isi_str_int, isi_str_str, isi_str_lst, isi_str_tup, isi_tuple_non, isi_tuple_bl, isi_tuple_int, isi_tuple_str, isi_tuple_lst, isi_tuple_tup, isi_list_non, isi_list_bl, isi_list_int, isi_list_str, isi_list_lst, isi_list_tup, isi_dict_non, isi_dict_bl, isi_dict_int, isi_dict_str, isi_dict_lst, isi_dict_tup, tyIn_lst2, tyD_lst, tyIn_tup2, tyD_tup, tyIn_str, tyD_str, tyIn_dct, tyD_dct, ev_cStep, ev_kC, ev_kC2T, ev_kC2F, ev_kSome, ev_cStep2, ev_kD, ev_kD2T, ev_kD2F, ev_kD3, ev_lStep, ev_kL, List.getElem?_cons_zero, List.getElem?_cons_succ, Option.join_some, Option.bind_some, Option.map_some, wipeE, List.set_cons_zero, List.set_cons_succ, List.length_cons, List.length_nil, List.map_cons, List.map_nil, gAll, gDef, List.cons_append, List.nil_append, if_true, if_false, Bool.not_true, Bool.not_false, Nat.zero_add, Nat.reduceAdd, Nat.reduceLeDiff, and_true, and_self, true_and, reduceIte, Bool.false_eq_true, $xs,*])
theorem app_get (S : Sto) (o : Ob) : (S ++ [o])[S.length]? = some o := by simp
theorem app_set (S : Sto) (o o' : Ob) : (S ++ [o]).set S.length o' = S ++ [o'] := by simp
theorem ob_list (xs : List D) : obIn ["list"] (some (.lst xs)) = some "list" := by unfold obIn tyOb; simp
theorem ob_dict (xs : List (Key × D)) : obIn ["dict"] (some (.dct xs)) = some "dict" := by unfold obIn tyOb; simp
theorem mut_app {S : Sto} {n : Nat} {xs : List D} {d : D} (h : S[n]? = some (.lst xs)) (hl : xs.length < 1000000) : mutAt "list" appendD n [d] S = .ok .non (S.set n (.lst (xs ++ [d]))) := by
  unfold mutAt
  rw [h]
  simp only [tyOb, if_true, appendD, hl]
def statesFrom (p : Pg) : St → List Ev → List St
  | s, [] => [s]
  | s, e :: es => s :: statesFrom p (afterE p s e) es
def lastSt (p : Pg) : St → List Ev → St
  | s, [] => s
  | s, e :: es => lastSt p (afterE p s e) es
theorem statesFrom_len (p : Pg) : ∀ (es : List Ev) (s : St), (statesFrom p s es).length = es.length + 1
  | [], s => rfl
  | e :: es, s => by simp [statesFrom, statesFrom_len p es]
theorem statesFrom_last (p : Pg) : ∀ (es : List Ev) (s : St), (statesFrom p s es).getLast? = some (lastSt p s es)
  | [], s => rfl
  | e :: es, s => by
    unfold statesFrom lastSt
    have := statesFrom_last p es (afterE p s e)
    cases h : statesFrom p (afterE p s e) es with
    | nil => rw [h] at this; cases this
    | cons x xs => rw [h] at this; rw [List.getLast?_cons_cons]; exact this
theorem pk_st (s : St) : Pk 2 s.d := pk_tup fun d hd => by
  simp at hd
  rcases hd with rfl | rfl | rfl <;> exact pk_ints _
theorem along_loop {p : Pg} (ok : p.Ok) {F1 : Fn} (h1 : SpBehind F1) (x1 : D) (S : Sto) :
    ∀ (es : List Ev) (acc : List St) (s : St) (x3 : Option D), s.Ok p → (∀ e ∈ es, e ∈ p.evs) → acc.length + es.length ≤ 100000 → ∃ r', loopD (gName' 3) (sExpr (eMut ["list"] appendD (eVar 2) (aCons (eCall 3 0 gAll F1 (aCons (eVar 0) (aCons (eBin ixD (eVar 2) (eUn negD (eC (.int 1)))) (aCons (eVar 3) aNil))) aNil) aNil)))
      (es.map evD) [some p.d, some x1, some (.ref S.length), x3] (S ++ [.lst ((acc ++ [s]).map St.d)]) = .ok (.nx [some p.d, some x1, some (.ref S.length), r']) (S ++ [.lst ((acc ++ statesFrom p s es).map St.d)])
  | [], acc, s, x3, _, _, _ => ⟨_, rfl⟩
  | e :: es, acc, s, x3, so, hm, hl => by
    have he := hm e List.mem_cons_self
    obtain ⟨hn, a, ha⟩ := evs_mem ok he
    have e1 := h1 p s e a (S ++ [.lst ((acc ++ [s]).map St.d)]) ok so hn ha
    rw [← afterE_eq ha] at e1
    obtain ⟨r', ih⟩ := along_loop ok h1 x1 S es (acc ++ [s]) (afterE p s e) (some (evD e)) (afterE_ok so e) (fun x hx => hm x (List.mem_cons_of_mem _ hx)) (by rw [List.length_append]; simp at hl ⊢; omega)
    refine ⟨r', ?_⟩
    rw [List.map_cons, loopD_cons]
    have la : atI ((acc ++ [s]).map St.d) (-1) = some s.d := atI_last (by simp)
    have st : lStep (gName' 3) (sExpr (eMut ["list"] appendD (eVar 2) (aCons (eCall 3 0 gAll F1 (aCons (eVar 0) (aCons (eBin ixD (eVar 2) (eUn negD (eC (.int 1)))) (aCons (eVar 3) aNil))) aNil) aNil))) (evD e) [some p.d, some x1, some (.ref S.length), x3] (S ++ [.lst ((acc ++ [s]).map St.d)]) = .ok (.nx [some p.d, some x1, some (.ref S.length), some (evD e)]) (S ++ [.lst ((acc ++ [s] ++ [afterE p s e]).map St.d)]) := by
      have m := mut_app (S := S ++ [.lst ((acc ++ [s]).map St.d)]) (n := S.length) (xs := (acc ++ [s]).map St.d) (d := (afterE p s e).d) (app_get S _) (by simp at hl ⊢; omega)
      rw [app_set] at m
      simp_arith only [app_get, ob_list, ixD_lst, la, e1, m]
      simp
    simp only [bnd, st]
    rw [ih]
    simp [statesFrom]
def SpAlong (F : Fn) : Prop := ∀ (p : Pg) (es : List Ev) (S : Sto), p.Ok → (∀ e ∈ es, e ∈ p.evs) → es.length ≤ 10000 → F [p.d, .tup (es.map evD)] S = .ok (.lst ((statesFrom p p.begun es).map St.d)) S
theorem states_along_ok {F1 F2 : Fn} (h1 : SpFirst F1) (h2 : SpBehind F2) : SpAlong (dBody false 4 (B_states_along F1 F2)) := by
  intro p es S ok hm hl
  show doneR false S (B_states_along F1 F2 [some p.d, some (.tup (es.map evD)), none, none] S) = _
  obtain ⟨r', e⟩ := along_loop ok h2 (.tup (es.map evD)) S es [] p.begun none (begun_ok p) hm (by simp; omega)
  simp only [List.nil_append, List.map_cons, List.map_nil] at e
  simp_arith only [B_states_along, h1 p S ok, few_ok (show [p.begun.d].length ≤ 1000000 by simp), e]
  show cutR S (.ref S.length) _ = _
  refine cut_list S [] _ (nbs_lt _ _ ((nbs_iff _).mpr fun d hd => ?_))
  obtain ⟨s, _, rfl⟩ := List.mem_map.mp hd
  exact (pk_st s).1
theorem okRoad_mem {p : Pg} : ∀ {es : List Ev} {s : St}, okRoad p s es → ∀ e ∈ es, e ∈ p.evs
  | [], _, _, e, h => by cases h
  | x :: es, s, hr, e, h => by
    obtain ⟨h1, h2, h3⟩ := hr
    rcases List.mem_cons.mp h with rfl | h
    · exact h1
    · exact okRoad_mem h3 e h
def SpReq (F : Fn) : Prop := ∀ (n : Str) (i : Int) (S : Sto), F [.bl true, .str n, .int i] S = .ok .non S
theorem require_given_ok : SpReq (dBody false 3 B_require_given) := by
  intro n i S
  show doneR false S (B_require_given [some (.bl true), some (.str n), some (.int i)] S) = _
  simp_arith only [B_require_given, done_nx S S _ rfl]
def SpAfter (F : Fn) : Prop := ∀ (p : Pg) (es : List Ev) (S : Sto), p.Ok → okRoad p p.begun es → es.length ≤ 10000 → F [p.d, .tup (es.map evD)] S = .ok (lastSt p p.begun es).d S
theorem state_after_ok {F1 F2 F3 : Fn} (h1 : SpRun F1) (h2 : SpReq F2) (h3 : SpAlong F3) : SpAfter (dBody false 2 (B_state_after F1 F2 F3)) := by
  intro p es S ok hr hl
  show doneR false S (B_state_after F1 F2 F3 [some p.d, some (.tup (es.map evD))] S) = _
  have la : atI ((statesFrom p p.begun es).map St.d) (-1) = some (lastSt p p.begun es).d := atI_last (by rw [List.getLast?_map, statesFrom_last]; rfl)
  simp_arith only [B_state_after, h1 p es S ok hr, h2 _ _ S, h3 p es S ok (okRoad_mem hr) hl, ixD_lst, la, done_eq]
theorem lastSt_ok {p : Pg} : ∀ {es : List Ev} {s : St}, s.Ok p → (lastSt p s es).Ok p
  | [], _, h => h
  | e :: es, s, h => lastSt_ok (es := es) (afterE_ok h e)
def SpNext (F : Fn) : Prop := ∀ (p : Pg) (es : List Ev) (S : Sto), p.Ok → okRoad p p.begun es → es.length ≤ 10000 → F [p.d, .tup (es.map evD)] S = .ok (.tup ((p.evs.filter (canE p (lastSt p p.begun es))).map evD)) S
theorem next_events_ok {F1 F2 : Fn} (h1 : SpIn F1) (h2 : SpAfter F2) : SpNext (dBody false 2 (B_next_events F1 F2)) := by
  intro p es S ok hr hl
  show doneR false S (B_next_events F1 F2 [some p.d, some (.tup (es.map evD))] S) = _
  simp_arith only [B_next_events, h2 p es S ok hr hl, h1 p _ S ok (lastSt_ok (begun_ok p)), done_eq]
def SpPlaces (F : Fn) : Prop := ∀ (p : Pg) (es : List Ev) (S : Sto), p.Ok → okRoad p p.begun es → es.length ≤ 10000 → F [p.d, .tup (es.map evD)] S = .ok (intsD (lastSt p p.begun es).pl) S
theorem places_after_ok {F1 : Fn} (h1 : SpAfter F1) : SpPlaces (dBody false 2 (B_places_after F1)) := by
  intro p es S ok hr hl
  show doneR false S (B_places_after F1 [some p.d, some (.tup (es.map evD))] S) = _
  simp_arith only [B_places_after, h1 p es S ok hr hl, stD, ixD_tup, atI_0, done_eq]
  rfl
end SS
end

section
set_option Elab.async false
set_option linter.all false
set_option maxRecDepth 100000
set_option autoImplicit false
set_option maxHeartbeats 4000000
namespace SS
open PySem PySem.Spec PyProof.Rows L2 FL
local macro_rules
  | `(tactic| simp_arith only [$xs,*]) => `(tactic| simp (config := { implicitDefEqProofs := false }) only [tn_ok, oR_some, nx_ok, ev_var, ev_c, ev_bin, ev_kBin1, ev_kBin2, ev_un, ev_kUn, ev_asB, ev_kB, ev_asT, ev_kT, ev_tAnd2, ev_kAndT, ev_kAndF, ev_tOr2, ev_kOrT, ev_kOrF, ev_not, ev_kNot, ev_eAnd2, ev_kAndE, ev_kAndET, ev_kAndEF, ev_eOr2, ev_kOrE, ev_kOrET, ev_kOrEF, ev_eNot1, ev_kNotE, ev_kNotE2, ev_if, ev_kIfT, ev_kIfF, ev_aNil, ev_aCons, ev_kCons, ev_kCons2, ev_aStar, ev_kStar, ev_kStar2, ev_kStar3, ev_eTup, ev_kTup, ev_kTup2, ev_eLst, ev_kLst, ev_kLst2, ev_eNewL, ev_kNewL, ev_kNewL2, ev_newD, ev_callP, ev_kCallP, ev_call, ev_kCall, ev_kCall2, ev_oNone, ev_oSome, ev_kO, ev_kO2, ev_sl, ev_kSl, ev_kSl2, ev_kSl3, ev_meth, ev_kM, ev_kM2, ev_kM3, ev_meth0, ev_kM0, ev_chain, ev_kCh, ev_kCh2, ev_kCh3T, ev_kCh3F, ev_kCh4, ev_kLs, ev_kComp, ev_comp, ev_kRef, ev_compM, ev_kComp2, ev_comp2, ev_iSeq, ev_kIt, ev_iRange, ev_kRg, ev_enT, ev_enL, ev_iEnum, items_lst, items_tup, items_str, ev_true, ev_ret, ev_kRet, ev_expr, ev_kEx, ev_asg, ev_kAsg, ev_kNx, ev_seq, ev_kSeqN, ev_kSeqR, ev_kSeqB, ev_kSeqC, ev_ifS, ev_kIfST, ev_kIfSF, ev_for, ev_kFor, ev_next, ev_retN, ev_break, ev_cont, ev_par, ev_kPar, ev_par3, ev_kPar3, ev_gName, ev_gTup, ev_gsNil, ev_gsCons, ev_kGs, ev_gSub, ev_kSub, ev_kSub2, ev_kSub3, ev_kSub4, ev_mut, ev_kMu, ev_kMu2, ev_kMu3, ev_kMu4, ev_catM, ev_kCat, ev_kCat2, ev_catR, vw_non, vw_bl, vw_int, vw_str, vw_lst, vw_tup, vw_dct, vw_ref, vwO_lst, vwO_dct, tru_bl, tru_int, tru_lst, tru_tup, tru_non, add_int, add_lst, add_tup, add_str, sub_int, neg_int, gt_int, ge_int, lt_int, le_int, len_lst, len_tup, len_dct, len_str, int_int, tuple_lst, tuple_tup, list_lst, list_tup, sl_lst, sl_tup, is_non, isnt_non, non_bl, non_int, non_str, non_lst, non_tup, non_non, int_int?, ref_ref?, alt_tup, alt_lst, isi_int_non, isi_int_bl, isi_int_int, isi_int_str, isi_int_lst, isi_int_tup, isi_bool_non, isi_bool_bl, isi_bool_int, isi_bool_str, isi_bool_lst, isi_bool_tup, isi_str_non, isi_str_bl, isi_str_int, isi_str_str, isi_str_lst, isi_str_tup, isi_tuple_non, isi_tuple_bl, isi_tuple_int, isi_tuple_str, isi_tuple_lst, isi_tuple_tup, isi_list_non, isi_list_bl, isi_list_int, isi_list_str, isi_list_lst, isi_list_tup, isi_dict_non, isi_dict_bl, isi_dict_int, isi_dict_str, isi_dict_lst, isi_dict_tup, tyIn_lst2, tyD_lst, tyIn_tup2, tyD_tup, tyIn_str, tyD_str, tyIn_dct, tyD_dct, ev_cStep, ev_kC, ev_kC2T, ev_kC2F, ev_kSome, ev_cStep2, ev_kD, ev_kD2T, ev_kD2F, ev_kD3, ev_lStep, ev_kL, List.getElem?_cons_zero, List.getElem?_cons_succ, Option.join_some, Option.bind_some, Option.map_some, wipeE, List.set_cons_zero, List.set_cons_succ, List.length_cons, List.length_nil, List.map_cons, List.map_nil, gAll, gDef, List.cons_append, List.nil_append, if_true, if_false, Bool.not_true, Bool.not_false, Nat.zero_add, Nat.reduceAdd, Nat.reduceLeDiff, and_true, and_self, true_and, reduceIte, Bool.false_eq_true, $xs,*])
/-! ## the law's own functions: the same numbers -/
/-- where a name stands among rows that begin with their names -/
def SpAtP (F : Fn) : Prop := ∀ (p : Pg) (n : Str) (S : Sto), p.Ok → n ∈ p.ps.map (·.1) → F [.tup (p.ps.map partyD), .str n] S = .ok (.int (p.pi n)) S
def SpAtS (F : Fn) : Prop := ∀ (p : Pg) (n : Str) (S : Sto), p.Ok → p.hasS n → F [.tup (p.ss.map slotD), .str n] S = .ok (.int (p.si n)) S
theorem law_atP_ok : SpAtP (dBody false 3 B__law_at) := by
  intro p n S ok hn
  show doneR false S (B__law_at [some (.tup (p.ps.map partyD)), some (.str n), none] S) = _
  have e := compD_map (S := S) (b := gName' 2) (t := tTrue) (e := eBin ixD (eVar 2) (eC (.int 0))) (r0 := [some (.tup (p.ps.map partyD)), some (.str n), none]) partyD (fun q => .str q.1) p.ps (fun q hq => by
    simp_arith only [partyD, ixD_tup, atI_0]) (by have := ok.lenP; omega)
  have e2 : p.ps.map (fun q => D.str q.1) = (p.ps.map (·.1)).map D.str := by simp
  simp_arith only [B__law_at, e, e2, index_lst hn, done_eq]
  rfl
theorem law_atS_ok : SpAtS (dBody false 3 B__law_at) := by
  intro p n S ok hn
  show doneR false S (B__law_at [some (.tup (p.ss.map slotD)), some (.str n), none] S) = _
  have e := compD_map (S := S) (b := gName' 2) (t := tTrue) (e := eBin ixD (eVar 2) (eC (.int 0))) (r0 := [some (.tup (p.ss.map slotD)), some (.str n), none]) slotD (fun q => .str q.1) p.ss (fun q hq => by
    simp_arith only [slotD, ixD_tup, atI_0]) (by have := ok.lenS; omega)
  have e2 : p.ss.map (fun q => D.str q.1) = (p.ss.map (·.1)).map D.str := by simp
  simp_arith only [B__law_at, e, e2, index_lst hn, done_eq]
  rfl
theorem law_arrow_of_ok {F1 : Fn} (h1 : SpAtP F1) : SpArrow (dBody false 2 (B__law_arrow_of F1)) := by
  intro p e a S ok hn ha
  obtain ⟨as, g1, g2⟩ := arw_get hn ha
  show doneR false S (B__law_arrow_of F1 [some p.d, some (evD e)] S) = _
  simp_arith only [B__law_arrow_of, pgD, evD, h1 p e.1 S ok hn, ixD_tup, atI_0, atI_1, atI_2, atI_nat (get_party g1), partyD, atI_nat (get_arw g2), done_eq]
def SpStamp (F : Fn) : Prop := ∀ (p : Pg) (s : St) (x : Str) (S : Sto), p.Ok → s.Ok p → p.hasS x → F [p.d, s.d, .str x] S = .ok (.int (stampOf p s x)) S
theorem law_stamp_ok {F1 : Fn} (h1 : SpAtS F1) : SpStamp (dBody false 3 (B__law_stamp F1)) := by
  intro p s x S ok so hx
  show doneR false S (B__law_stamp F1 [some p.d, some s.d, some (.str x)] S) = _
  simp_arith only [B__law_stamp, pgD, stD, h1 p x S ok hx, ixD_tup, atI_1, atI_2, atI_nat (get_stamp so hx), done_eq]
def SpCount (F : Fn) : Prop := ∀ (p : Pg) (s : St) (x : Str) (S : Sto), p.Ok → s.Ok p → p.hasS x → F [p.d, s.d, .str x] S = .ok (.int (countOf p s x)) S
theorem law_count_ok {F1 : Fn} (h1 : SpAtS F1) : SpCount (dBody false 3 (B__law_count F1)) := by
  intro p s x S ok so hx
  show doneR false S (B__law_count F1 [some p.d, some s.d, some (.str x)] S) = _
  have ic : indexD (.tup (p.cs.map D.str)) [.str (p.own x)] = some (.int (p.ci (p.own x))) := index_tup (own_mem ok hx)
  simp_arith only [B__law_count, pgD, stD, h1 p x S ok hx, ixD_tup, atI_0, atI_1, atI_nat (get_slot hx), slotD, ic, atI_nat (get_count ok so hx), done_eq]
theorem in_lit2 (w a b : Str) : inD (.str w) (.tup [.str a, .str b]) = some (.bl ([a, b].contains w)) := by
  have := in_words w [a, b]
  rw [dec_in] at this
  exact this
theorem in_lit6 (w a b c d e f : Str) : inD (.str w) (.tup [.str a, .str b, .str c, .str d, .str e, .str f]) = some (.bl ([a, b, c, d, e, f].contains w)) := by
  have := in_words w [a, b, c, d, e, f]
  rw [dec_in] at this
  exact this
theorem few2 (x y : D) : few [x, y] = some [x, y] := few_ok (by simp)
theorem few1 (x : D) : few [x] = some [x] := few_ok (by simp)
theorem few0 : few ([] : List D) = some [] := few_ok (by simp)
theorem few3 (x y z : D) : few [x, y, z] = some [x, y, z] := few_ok (by simp)
theorem few6 (a b c d e f : D) : few [a, b, c, d, e, f] = some [a, b, c, d, e, f] := few_ok (by simp)
theorem cnt_eq (w : Deed) (h : w.isLook = true) : [Str.ofString "same", Str.ofString "other"].contains w.word = (match w with | .same _ => true | .other _ => true | _ => false) := by
  cases w <;> first | (simp [Deed.isLook] at h; done) | (simp only [Deed.word]; decide +kernel)
theorem law_gap_ok {F1 F2 : Fn} (h1 : SpCount F1) (h2 : SpStamp F2) : SpGap (dBody false 3 (B__law_gap F1 F2)) := by
  intro p s w S ok so hw hl
  show doneR false S (B__law_gap F1 F2 [some p.d, some s.d, some w.d] S) = _
  have cq := cnt_eq w hl
  cases w with
  | same x =>
    have hx : p.hasS x := hw
    simp only [Deed.word] at cq
    simp_arith only [B__law_gap, Deed.d, Deed.word, Deed.args, few2, in_lit2, cq, h1 p s x S ok so hx, h2 p s x S ok so hx, ixD_tup, atI_0, atI_1, done_eq, gap]
  | other x =>
    have hx : p.hasS x := hw
    simp only [Deed.word] at cq
    simp_arith only [B__law_gap, Deed.d, Deed.word, Deed.args, few2, in_lit2, cq, h1 p s x S ok so hx, h2 p s x S ok so hx, ixD_tup, atI_0, atI_1, done_eq, gap]
  | agree x y =>
    have hx : p.hasS x := hw.1
    have hy : p.hasS y := hw.2
    simp only [Deed.word] at cq
    simp_arith only [B__law_gap, Deed.d, Deed.word, Deed.args, few2, in_lit2, cq, h2 p s x S ok so hx, h2 p s y S ok so hy, ixD_tup, atI_0, atI_1, atI_2, done_eq, gap]
  | differ x y =>
    have hx : p.hasS x := hw.1
    have hy : p.hasS y := hw.2
    simp only [Deed.word] at cq
    simp_arith only [B__law_gap, Deed.d, Deed.word, Deed.args, few2, in_lit2, cq, h2 p s x S ok so hx, h2 p s y S ok so hy, ixD_tup, atI_0, atI_1, atI_2, done_eq, gap]
  | newer x y =>
    have hx : p.hasS x := hw.1
    have hy : p.hasS y := hw.2
    simp only [Deed.word] at cq
    simp_arith only [B__law_gap, Deed.d, Deed.word, Deed.args, few2, in_lit2, cq, h2 p s x S ok so hx, h2 p s y S ok so hy, ixD_tup, atI_0, atI_1, atI_2, done_eq, gap]
  | elder x y =>
    have hx : p.hasS x := hw.1
    have hy : p.hasS y := hw.2
    simp only [Deed.word] at cq
    simp_arith only [B__law_gap, Deed.d, Deed.word, Deed.args, few2, in_lit2, cq, h2 p s x S ok so hx, h2 p s y S ok so hy, ixD_tup, atI_0, atI_1, atI_2, done_eq, gap]
  | _ => simp [Deed.isLook] at hl
def SpIsLook (F : Fn) : Prop := ∀ (w : Deed) (S : Sto), F [w.d] S = .ok (.bl w.isLook) S
theorem law_is_look_ok : SpIsLook (dBody false 1 B__law_is_look) := by
  intro w S
  show doneR false S (B__law_is_look [some w.d] S) = _
  have k : [Str.ofString "same", Str.ofString "other", Str.ofString "agree", Str.ofString "differ", Str.ofString "newer", Str.ofString "elder"].contains w.word = w.isLook := look_words w
  simp_arith only [B__law_is_look, Deed.d, few6, in_lit6, k, ixD_tup, atI_0, done_eq]
def SpTrue3 (F : Fn) : Prop := ∀ (p : Pg) (s : St) (w : Deed) (S : Sto), p.Ok → s.Ok p → p.okD w → F [p.d, s.d, w.d] S = .ok (.bl (truth w (gap p s w))) S
theorem law_is_true_ok {F1 F2 : Fn} (h1 : SpGap F1) (h2 : SpIsLook F2) : SpTrue3 (dBody false 4 (B__law_is_true F1 F2)) := by
  intro p s w S ok so hw
  show doneR false S (B__law_is_true F1 F2 [some p.d, some s.d, some w.d, none] S) = _
  have e2 := h2 w S
  have wd : w.d = .tup (.str w.word :: w.args) := rfl
  cases hl : w.isLook with
  | false =>
    rw [hl] at e2
    simp_arith only [B__law_is_true, e2, done_eq, truth_nolook _ hl]
  | true =>
    rw [hl] at e2
    have e1 := h1 p s w S ok so hw hl
    generalize gap p s w = g at e1 ⊢
    rw [wd] at e1 e2 ⊢
    have o1 : [Str.ofString "newer", Str.ofString "elder"].contains w.word = (match w with | .newer _ _ => true | .elder _ _ => true | _ => false) := by
      cases w <;> first | (simp [Deed.isLook] at hl; done) | (simp only [Deed.word]; decide +kernel)
    have o2 : [Str.ofString "same", Str.ofString "agree"].contains w.word = (match w with | .same _ => true | .agree _ _ => true | _ => false) := by
      cases w <;> first | (simp [Deed.isLook] at hl; done) | (simp only [Deed.word]; decide +kernel)
    have o3 : (w.word == Str.ofString "newer") = (match w with | .newer _ _ => true | _ => false) := by
      cases w <;> first | (simp [Deed.isLook] at hl; done) | (simp only [Deed.word]; decide +kernel)
    cases w <;> first | (simp [Deed.isLook] at hl; done) | (
      simp only at o1 o2 o3
      simp_arith only [B__law_is_true, e1, e2, few2, in_lit2, o1, o2, o3, ixD_tup, atI_0, eqD_int, eqD_str, eqD_bl, done_eq, truth]
      try (congr 2; generalize (decide (0 < g)) = b; cases b <;> rfl)
      try (congr 2; generalize (g == 0) = b; cases b <;> rfl))
theorem law_stands_ok {F1 F2 : Fn} (h1 : SpArrow F1) (h2 : SpAtP F2) : SpStands (dBody false 3 (B__law_stands F1 F2)) := by
  intro p s e a S ok so hn ha
  show doneR false S (B__law_stands F1 F2 [some p.d, some s.d, some (evD e)] S) = _
  have e1 := h1 p e a S ok hn ha
  rw [pgD] at e1
  rw [evD] at e1
  simp_arith only [B__law_stands, pgD, evD, e1, h2 p e.1 S ok hn, ixD_tup, atI_0, atI_1, atI_2, St.d, intsD, atI_nat (get_int (show p.pi e.1 < s.pl.length by rw [so.pl]; exact pi_lt hn)), Arw.d, eqD_int, done_eq]
  rfl
end SS
end

section
set_option Elab.async false
set_option linter.all false
set_option maxRecDepth 100000
set_option autoImplicit false
set_option maxHeartbeats 4000000
namespace SS
open PySem PySem.Spec PyProof.Rows L2 FL
local macro_rules
  | `(tactic| simp_arith only [$xs,*]) => `(tactic| simp (config := { implicitDefEqProofs := false }) only [tn_ok, oR_some, nx_ok, ev_var, ev_c, ev_bin, ev_kBin1, ev_kBin2, ev_un, ev_kUn, ev_asB, ev_kB, ev_asT, ev_kT, ev_tAnd2, ev_kAndT, ev_kAndF, ev_tOr2, ev_kOrT, ev_kOrF, ev_not, ev_kNot, ev_eAnd2, ev_kAndE, ev_kAndET, ev_kAndEF, ev_eOr2, ev_kOrE, ev_kOrET, ev_kOrEF, ev_eNot1, ev_kNotE, ev_kNotE2, ev_if, ev_kIfT, ev_kIfF, ev_aNil, ev_aCons, ev_kCons, ev_kCons2, ev_aStar, ev_kStar, ev_kStar2, ev_kStar3, ev_eTup, ev_kTup, ev_kTup2, ev_eLst, ev_kLst, ev_kLst2, ev_eNewL, ev_kNewL, ev_kNewL2, ev_newD, ev_callP, ev_kCallP, ev_call, ev_kCall, ev_kCall2, ev_oNone, ev_oSome, ev_kO, ev_kO2, ev_sl, ev_kSl, ev_kSl2, ev_kSl3, ev_meth, ev_kM, ev_kM2, ev_kM3, ev_meth0, ev_kM0, ev_chain, ev_kCh, ev_kCh2, ev_kCh3T, ev_kCh3F, ev_kCh4, ev_kLs, ev_kComp, ev_comp, ev_kRef, ev_compM, ev_kComp2, ev_comp2, ev_iSeq, ev_kIt, ev_iRange, ev_kRg, ev_enT, ev_enL, ev_iEnum, items_lst, items_tup, items_str, ev_true, ev_ret, ev_kRet, ev_expr, ev_kEx, ev_asg, ev_kAsg, ev_kNx, ev_seq, ev_kSeqN, ev_kSeqR, ev_kSeqB, ev_kSeqC, ev_ifS, ev_kIfST, ev_kIfSF, ev_for, ev_kFor, ev_next, ev_retN, ev_break, ev_cont, ev_par, ev_kPar, ev_par3, ev_kPar3, ev_gName, ev_gTup, ev_gsNil, ev_gsCons, ev_kGs, ev_gSub, ev_kSub, ev_kSub2, ev_kSub3, ev_kSub4, ev_mut, ev_kMu, ev_kMu2, ev_kMu3, ev_kMu4, ev_catM, ev_kCat, ev_kCat2, ev_catR, vw_non, vw_bl, vw_int, vw_str, vw_lst, vw_tup, vw_dct, vw_ref, vwO_lst, vwO_dct, tru_bl, tru_int, tru_lst, tru_tup, tru_non, add_int, add_lst, add_tup, add_str, sub_int, neg_int, gt_int, ge_int, lt_int, le_int, len_lst, len_tup, len_dct, len_str, int_int, tuple_lst, tuple_tup, list_lst, list_tup, sl_lst, sl_tup, is_non, isnt_non, non_bl, non_int, non_str, non_lst, non_tup, non_non, int_int?, ref_ref?, alt_tup, alt_lst, isi_int_non, isi_int_bl, isi_int_int, isi_int_str, isi_int_lst, isi_int_tup, isi_bool_non, isi_bool_bl, isi_bool_int, isi_bool_str, isi_bool_lst, isi_bool_tup, isi_str_non, isi_str_bl, isi_str_int, isi_str_str, isi_str_lst, isi_str_tup, isi_tuple_non, isi_tuple_bl, isi_tuple_int, isi_tuple_str, isi_tuple_lst, isi_tuple_tup, isi_list_non, isi_list_bl, isi_list_int, isi_list_str, isi_list_lst, isi_list_tup, isi_dict_non, isi_dict_bl, isi_dict_int, isi_dict_str, isi_dict_lst, isi_dict_tup, tyIn_lst2, tyD_lst, tyIn_tup2, tyD_tup, tyIn_str, tyD_str, tyIn_dct, tyD_dct, ev_cStep, ev_kC, ev_kC2T, ev_kC2F, ev_kSome, ev_cStep2, ev_kD, ev_kD2T, ev_kD2F, ev_kD3, ev_lStep, ev_kL, List.getElem?_cons_zero, List.getElem?_cons_succ, Option.join_some, Option.bind_some, Option.map_some, wipeE, List.set_cons_zero, List.set_cons_succ, List.length_cons, List.length_nil, List.map_cons, List.map_nil, gAll, gDef, List.cons_append, List.nil_append, if_true, if_false, Bool.not_true, Bool.not_false, Nat.zero_add, Nat.reduceAdd, Nat.reduceLeDiff, and_true, and_self, true_and, reduceIte, Bool.false_eq_true, $xs,*])
theorem law_begun_ok : SpFirst (dBody false 1 B__law_begun) := by
  intro p S ok
  show doneR false S (B__law_begun [some p.d] S) = _
  have h1 := ok.lenP
  have h2 := ok.lenS
  have h3 := ok.lenC
  simp_arith only [B__law_begun, pgD, few1, few3, ixD_tup, atI_0, atI_1, atI_2, List.length_map, mul_zero (show p.ps.length ≤ 1000 by omega), mul_zero (show p.ss.length ≤ 1000 by omega), mul_zero (show p.cs.length ≤ 1000 by omega), done_eq, St.d, Pg.begun]
def evBody : FSx := sAsg (eBin addD (eVar 1) (eComp [4] (iRange rangeD1 (aCons (eCallP lenD (aCons (eVar 3) aNil)) aNil)) (gName' 4) tTrue (eTup (aCons (eVar 2) (aCons (eVar 4) aNil))))) (gName' 1)
theorem ev_loop {p : Pg} (S : Sto) : ∀ (qs : List (Str × List Arw)) (acc : List Ev) (x2 x3 x4 : Option D), (∀ q ∈ qs, q.2.length ≤ 100) → acc.length + qs.length * 100 ≤ 100000 →
    ∃ y2 y3 y4, loopD (gTup' 2 (gsCons (gName' 2) (gsCons (gName' 3) gsNil))) evBody (qs.map partyD) [some p.d, some (.lst (acc.map evD)), x2, x3, x4] S = .ok (.nx [some p.d, some (.lst ((acc ++ qs.flatMap fun q => (List.range q.2.length).map fun k => (q.1, k)).map evD)), y2, y3, y4]) S
  | [], acc, x2, x3, x4, _, _ => ⟨x2, x3, x4, by simp [loopD, FL.ret]⟩
  | q :: qs, acc, x2, x3, x4, hA, hl => by
    have hq := hA q List.mem_cons_self
    rw [List.length_cons, Nat.succ_mul] at hl
    obtain ⟨y2, y3, y4, ih⟩ := ev_loop (p := p) S qs (acc ++ (List.range q.2.length).map fun k => (q.1, k)) (some (.str q.1)) (some (.tup (q.2.map Arw.d))) x4 (fun r hr => hA r (List.mem_cons_of_mem _ hr)) (by rw [List.length_append, List.length_map, List.length_range]; omega)
    refine ⟨y2, y3, y4, ?_⟩
    rw [List.map_cons, loopD_cons]
    have c := compD_map (S := S) (b := gName' 4) (t := tTrue) (e := eTup (aCons (eVar 2) (aCons (eVar 4) aNil))) (r0 := [some p.d, some (.lst (acc.map evD)), some (.str q.1), some (.tup (q.2.map Arw.d)), none]) (fun k : Nat => D.int k) (fun k => evD (q.1, k)) (List.range q.2.length) (fun k hk => by
      simp_arith only [few2, evD]) (by simp; omega)
    have st : lStep (gTup' 2 (gsCons (gName' 2) (gsCons (gName' 3) gsNil))) evBody (partyD q) [some p.d, some (.lst (acc.map evD)), x2, x3, x4] S = .ok (.nx [some p.d, some (.lst ((acc ++ (List.range q.2.length).map fun k => (q.1, k)).map evD)), some (.str q.1), some (.tup (q.2.map Arw.d)), x4]) S := by
      simp_arith only [evBody, partyD, List.length_map, range1 (show q.2.length ≤ 1000000 by omega), c, cap_ok (show acc.length + (List.range q.2.length).length ≤ 1000000 by simp; omega)]
      simp
    simp only [bnd, st]
    rw [ih]
    simp
theorem law_events_ok : SpAll (dBody false 5 B__law_events) := by
  intro p S ok
  show doneR false S (B__law_events [some p.d, none, none, none, none] S) = _
  obtain ⟨y2, y3, y4, e⟩ := ev_loop (p := p) S p.ps [] none none none ok.lenA (by have := ok.lenP; simp; omega)
  simp only [evBody, List.map_nil, List.nil_append] at e
  rw [pgD] at e ⊢
  simp_arith only [B__law_events, few0, ixD_tup, atI_2, e, done_eq]
  rfl
/-- the law's open events, as a list -/
def SpOpen (F : Fn) : Prop := ∀ (p : Pg) (s : St) (S : Sto), p.Ok → s.Ok p → F [p.d, s.d] S = .ok (.lst ((p.evs.filter (canE p s)).map evD)) S
theorem law_open_ok {F1 F2 F3 F4 : Fn} (h1 : SpArrow F1) (h2 : SpAll F2) (h3 : SpTrue3 F3) (h4 : SpStands F4) : SpOpen (dBody false 4 (B__law_open F1 F2 F3 F4)) := by
  intro p s S ok so
  show doneR false S (B__law_open F1 F2 F3 F4 [some p.d, some s.d, none, none] S) = _
  have c1 := compD_filter (S := S) (b := gName' 3) (t := asT (eCall 3 0 gAll F4 (aCons (eVar 0) (aCons (eVar 1) (aCons (eVar 3) aNil))) aNil)) (e := eVar 3) (r0 := [some p.d, some s.d, none, none]) evD (stE p s) p.evs (fun e he => by
    obtain ⟨hn, a, ha⟩ := evs_mem ok he
    have es : stE p s e = stands p s e a := by unfold stE; rw [ha]
    rw [es]
    have e4 := h4 p s e a S ok so hn ha
    cases hq : stands p s e a with
    | true => rw [hq] at e4; simp_arith only [e4]
    | false => rw [hq] at e4; simp_arith only [e4]) (by have := len_evs ok; omega)
  have c2 := compD_filter (S := S) (b := gName' 3) (t := asT (eCall 3 0 gAll F3 (aCons (eVar 0) (aCons (eVar 1) (aCons (eBin ixD (eCall 2 0 gAll F1 (aCons (eVar 0) (aCons (eVar 3) aNil)) aNil) (eC (.int 1))) aNil))) aNil)) (e := eVar 3) (r0 := [some p.d, some s.d, some (.lst ((p.evs.filter (stE p s)).map evD)), none]) evD (canE p s) (p.evs.filter (stE p s)) (fun e he => by
    obtain ⟨he, hs⟩ := List.mem_filter.mp he
    obtain ⟨hn, a, ha⟩ := evs_mem ok he
    have es : stE p s e = stands p s e a := by unfold stE; rw [ha]
    rw [es] at hs
    have ec : canE p s e = truth a.w (gap p s a.w) := by unfold canE; rw [ha]; show canCome p s e a = _; unfold canCome; rw [hs, Bool.true_and]
    rw [ec]
    have e1 := h1 p e a S ok hn ha
    have e3 := h3 p s a.w S ok so (arw_ok ok hn ha).1
    have ad : a.d = .tup [.int a.p, a.w.d, .int a.q] := rfl
    rw [ad] at e1
    cases hq : truth a.w (gap p s a.w) with
    | true => rw [hq] at e3; simp_arith only [e1, ixD_tup, atI_1, e3]
    | false => rw [hq] at e3; simp_arith only [e1, ixD_tup, atI_1, e3]) (by
      have := len_evs ok
      have := List.length_filter_le (stE p s) p.evs
      omega)
  simp_arith only [B__law_open, h2 p S ok, c1, c2, done_eq]
  congr 3
  rw [List.filter_filter]
  refine List.filter_congr fun e he => ?_
  obtain ⟨hn, a, ha⟩ := evs_mem ok he
  unfold canE stE
  rw [ha]
  show (canCome p s e a && stands p s e a) = canCome p s e a
  unfold canCome
  cases stands p s e a <;> simp
theorem law_put_ok : SpPut (dBody false 3 B__law_put) := by
  intro xs i v S hi hl
  show doneR false S (B__law_put [some (intsD xs), some (.int i), some (.int v)] S) = _
  have e1 := cut_take (xs.map D.int) i (by simp; omega)
  have e2 := cut_drop (xs.map D.int) (i + 1) (by simp; omega)
  rw [show ((i + 1 : Nat) : Int) = (i : Int) + 1 by omega] at e2
  have c1 : ((xs.map D.int).take i ++ [D.int v]) ++ (xs.map D.int).drop (i + 1) = (xs.set i v).map D.int := by
    rw [List.append_assoc]
    exact put_split xs i v hi
  simp_arith only [B__law_put, intsD, few1, e1, e2, cap_ok (show ((xs.map D.int).take i).length + (0 + 1) ≤ 1000000 by simp; omega), cap_ok (show ((xs.map D.int).take i ++ [D.int v]).length + ((xs.map D.int).drop (i + 1)).length ≤ 1000000 by simp; omega)]
  have c2 : ((xs.map D.int).take i).length + 1 ≤ 1000000 := by simp; omega
  simp_arith only [cap_ok c2, cap_ok (show ((xs.map D.int).take i ++ [D.int v]).length + ((xs.map D.int).drop (i + 1)).length ≤ 1000000 by simp; omega), c1, done_eq]
end SS
end

section
set_option Elab.async false
set_option linter.all false
set_option maxRecDepth 100000
set_option autoImplicit false
set_option maxHeartbeats 4000000
namespace SS
open PySem PySem.Spec PyProof.Rows L2 FL
local macro_rules
  | `(tactic| simp_arith only [$xs,*]) => `(tactic| simp (config := { implicitDefEqProofs := false }) only [tn_ok, oR_some, nx_ok, ev_var, ev_c, ev_bin, ev_kBin1, ev_kBin2, ev_un, ev_kUn, ev_asB, ev_kB, ev_asT, ev_kT, ev_tAnd2, ev_kAndT, ev_kAndF, ev_tOr2, ev_kOrT, ev_kOrF, ev_not, ev_kNot, ev_eAnd2, ev_kAndE, ev_kAndET, ev_kAndEF, ev_eOr2, ev_kOrE, ev_kOrET, ev_kOrEF, ev_eNot1, ev_kNotE, ev_kNotE2, ev_if, ev_kIfT, ev_kIfF, ev_aNil, ev_aCons, ev_kCons, ev_kCons2, ev_aStar, ev_kStar, ev_kStar2, ev_kStar3, ev_eTup, ev_kTup, ev_kTup2, ev_eLst, ev_kLst, ev_kLst2, ev_eNewL, ev_kNewL, ev_kNewL2, ev_newD, ev_callP, ev_kCallP, ev_call, ev_kCall, ev_kCall2, ev_oNone, ev_oSome, ev_kO, ev_kO2, ev_sl, ev_kSl, ev_kSl2, ev_kSl3, ev_meth, ev_kM, ev_kM2, ev_kM3, ev_meth0, ev_kM0, ev_chain, ev_kCh, ev_kCh2, ev_kCh3T, ev_kCh3F, ev_kCh4, ev_kLs, ev_kComp, ev_comp, ev_kRef, ev_compM, ev_kComp2, ev_comp2, ev_iSeq, ev_kIt, ev_iRange, ev_kRg, ev_enT, ev_enL, ev_iEnum, items_lst, items_tup, items_str, ev_true, ev_ret, ev_kRet, ev_expr, ev_kEx, ev_asg, ev_kAsg, ev_kNx, ev_seq, ev_kSeqN, ev_kSeqR, ev_kSeqB, ev_kSeqC, ev_ifS, ev_kIfST, ev_kIfSF, ev_for, ev_kFor, ev_next, ev_retN, ev_break, ev_cont, ev_par, ev_kPar, ev_par3, ev_kPar3, ev_gName, ev_gTup, ev_gsNil, ev_gsCons, ev_kGs, ev_gSub, ev_kSub, ev_kSub2, ev_kSub3, ev_kSub4, ev_mut, ev_kMu, ev_kMu2, ev_kMu3, ev_kMu4, ev_catM, ev_kCat, ev_kCat2, ev_catR, vw_non, vw_bl, vw_int, vw_str, vw_lst, vw_tup, vw_dct, vw_ref, vwO_lst, vwO_dct, tru_bl, tru_int, tru_lst, tru_tup, tru_non, add_int, add_lst, add_tup, add_str, sub_int, neg_int, gt_int, ge_int, lt_int, le_int, len_lst, len_tup, len_dct, len_str, int_int, tuple_lst, tuple_tup, list_lst, list_tup, sl_lst, sl_tup, is_non, isnt_non, non_bl, non_int, non_str, non_lst, non_tup, non_non, int_int?, ref_ref?, alt_tup, alt_lst, isi_int_non, isi_int_bl, isi_int_int, isi_int_str, isi_int_lst, isi_int_tup, isi_bool_non, isi_bool_bl, isi_bool_int, isi_bool_str, isi_bool_lst, isi_bool_tup, isi_str_non, isi_str_bl, isi_str_int, isi_str_str, isi_str_lst, isi_str_tup, isi_tuple_non, isi_tuple_bl, isi_tuple_int, isi_tuple_str, isi_tuple_lst, isi_tuple_tup, isi_list_non, isi_list_bl, isi_list_int, isi_list_str, isi_list_lst, isi_list_tup, isi_dict_non, isi_dict_bl, isi_dict_int, isi_dict_str, isi_dict_lst, isi_dict_tup, tyIn_lst2, tyD_lst, tyIn_tup2, tyD_tup, tyIn_str, tyD_str, tyIn_dct, tyD_dct, ev_cStep, ev_kC, ev_kC2T, ev_kC2F, ev_kSome, ev_cStep2, ev_kD, ev_kD2T, ev_kD2F, ev_kD3, ev_lStep, ev_kL, List.getElem?_cons_zero, List.getElem?_cons_succ, Option.join_some, Option.bind_some, Option.map_some, wipeE, List.set_cons_zero, List.set_cons_succ, List.length_cons, List.length_nil, List.map_cons, List.map_nil, gAll, gDef, List.cons_append, List.nil_append, if_true, if_false, Bool.not_true, Bool.not_false, Nat.zero_add, Nat.reduceAdd, Nat.reduceLeDiff, and_true, and_self, true_and, reduceIte, Bool.false_eq_true, $xs,*])
theorem law_after_ok {F1 F2 F3 F4 F5 : Fn} (h1 : SpArrow F1) (h2 : SpAtP F2) (h2' : SpAtS F2) (h3 : SpCount F3) (h4 : SpPut F4) (h5 : SpStamp F5) : SpBehind (dBody false 11 (B__law_after F1 F2 F3 F4 F5)) := by
  intro p s e a S ok so hn ha
  show doneR false S (B__law_after F1 F2 F3 F4 F5 [some p.d, some s.d, some (evD e), none, none, none, none, none, none, none, none] S) = _
  obtain ⟨aw, ap1, ap2, aq1, aq2⟩ := arw_ok ok hn ha
  have ad : a.d = .tup [.int a.p, .tup (.str a.w.word :: a.w.args), .int a.q] := rfl
  have e1 := h1 p e a S ok hn ha
  rw [ad] at e1
  have e2 := h2 p e.1 S ok hn
  have lp := ok.lenP
  have ls := ok.lenS
  have lc := ok.lenC
  have e4 := h4 s.pl (p.pi e.1) a.q S (by rw [so.pl]; exact pi_lt hn) (by rw [so.pl]; omega)
  have putS : ∀ x v, p.hasS x → F4 [intsD s.st, .int (p.si x), .int v] S = .ok (intsD (s.st.set (p.si x) v)) S := fun x v hx => h4 s.st (p.si x) v S (by rw [so.st]; exact si_lt hx) (by rw [so.st]; omega)
  have putC : ∀ c v, c ∈ p.cs → F4 [intsD s.ct, .int (p.ci c), .int v] S = .ok (intsD (s.ct.set (p.ci c) v)) S := fun c v hc => h4 s.ct (p.ci c) v S (by rw [so.ct]; exact ci_lt hc) (by rw [so.ct]; omega)
  have atS : ∀ x, p.hasS x → F2 [.tup (p.ss.map slotD), .str x] S = .ok (.int (p.si x)) S := fun x hx => h2' p x S ok hx
  have cnt : ∀ x, p.hasS x → F3 [p.d, s.d, .str x] S = .ok (.int (countOf p s x)) S := fun x hx => h3 p s x S ok so hx
  have stm : ∀ x, p.hasS x → F5 [p.d, s.d, .str x] S = .ok (.int (stampOf p s x)) S := fun x hx => h5 p s x S ok so hx
  have evd : evD e = .tup [.str e.1, .int e.2] := rfl
  rw [evd] at e1 ⊢
  rw [pgD] at e1 cnt stm ⊢
  rw [stD] at cnt stm ⊢
  unfold intsD at e4 putS putC
  have kc : ∀ w : Deed, [Str.ofString "keep", Str.ofString "copy"].contains w.word = (match w with | .keep _ => true | .copy _ _ => true | _ => false) := by
    intro w
    cases w <;> (simp only [Deed.word]; decide +kernel)
  have kr : ∀ w : Deed, (w.word == Str.ofString "rise") = (match w with | .rise _ _ => true | _ => false) := by
    intro w
    cases w <;> (simp only [Deed.word]; decide +kernel)
  have kk : ∀ w : Deed, (w.word == Str.ofString "keep") = (match w with | .keep _ => true | _ => false) := by
    intro w
    cases w <;> (simp only [Deed.word]; decide +kernel)
  have c1 := kc a.w
  have c2 := kr a.w
  have c3 := kk a.w
  cases hw : a.w with
  | rise c n =>
    rw [hw] at aw e1 c1 c2
    have hc : c ∈ p.cs := aw.1
    have ic : indexD (.tup (p.cs.map D.str)) [.str c] = some (.int (p.ci c)) := index_tup hc
    simp only at c1 c2
    simp_arith only [B__law_after, Deed.args, e1, e2, e4, ic, putC c _ hc, c1, c2, few2, few3, in_lit2, ixD_tup, atI_0, atI_1, atI_2, atI_nat (get_ct so hc), eqD_str, done_eq, after, hw, St.d, intsD]
  | keep x =>
    rw [hw] at aw e1 c1 c2 c3
    have hx : p.hasS x := aw
    simp only at c1 c2 c3
    simp_arith only [B__law_after, Deed.args, e1, e2, e4, c1, c2, c3, cnt x hx, atS x hx, putS x _ hx, few2, few3, in_lit2, ixD_tup, atI_0, atI_1, atI_2, eqD_str, done_eq, after, hw, St.d, intsD]
  | copy x y =>
    rw [hw] at aw e1 c1 c2 c3
    have hx : p.hasS x := aw.1
    have hy : p.hasS y := aw.2
    simp only at c1 c2 c3
    simp_arith only [B__law_after, Deed.args, e1, e2, e4, c1, c2, c3, stm y hy, atS x hx, putS x _ hx, few2, few3, in_lit2, ixD_tup, atI_0, atI_1, atI_2, eqD_str, done_eq, after, hw, St.d, intsD]
  | _ =>
    rw [hw] at e1 c1 c2
    simp only at c1 c2
    simp_arith only [B__law_after, e1, e2, e4, c1, c2, few2, few3, in_lit2, ixD_tup, atI_0, atI_1, atI_2, eqD_str, done_eq, after, hw, St.d, intsD]
end SS
end

section
set_option Elab.async false
set_option linter.all false
set_option maxRecDepth 100000
set_option autoImplicit false
set_option maxHeartbeats 4000000
namespace SS
open PySem PySem.Spec PyProof.Rows L2 FL
local macro_rules
  | `(tactic| simp_arith only [$xs,*]) => `(tactic| simp (config := { implicitDefEqProofs := false }) only [tn_ok, oR_some, nx_ok, ev_var, ev_c, ev_bin, ev_kBin1, ev_kBin2, ev_un, ev_kUn, ev_asB, ev_kB, ev_asT, ev_kT, ev_tAnd2, ev_kAndT, ev_kAndF, ev_tOr2, ev_kOrT, ev_kOrF, ev_not, ev_kNot, ev_eAnd2, ev_kAndE, ev_kAndET, ev_kAndEF, ev_eOr2, ev_kOrE, ev_kOrET, ev_kOrEF, ev_eNot1, ev_kNotE, ev_kNotE2, ev_if, ev_kIfT, ev_kIfF, ev_aNil, ev_aCons, ev_kCons, ev_kCons2, ev_aStar, ev_kStar, ev_kStar2, ev_kStar3, ev_eTup, ev_kTup, ev_kTup2, ev_eLst, ev_kLst, ev_kLst2, ev_eNewL, ev_kNewL, ev_kNewL2, ev_newD, ev_callP, ev_kCallP, ev_call, ev_kCall, ev_kCall2, ev_oNone, ev_oSome, ev_kO, ev_kO2, ev_sl, ev_kSl, ev_kSl2, ev_kSl3, ev_meth, ev_kM, ev_kM2, ev_kM3, ev_meth0, ev_kM0, ev_chain, ev_kCh, ev_kCh2, ev_kCh3T, ev_kCh3F, ev_kCh4, ev_kLs, ev_kComp, ev_comp, ev_kRef, ev_compM, ev_kComp2, ev_comp2, ev_iSeq, ev_kIt, ev_iRange, ev_kRg, ev_enT, ev_enL, ev_iEnum, items_lst, items_tup, items_str, ev_true, ev_ret, ev_kRet, ev_expr, ev_kEx, ev_asg, ev_kAsg, ev_kNx, ev_seq, ev_kSeqN, ev_kSeqR, ev_kSeqB, ev_kSeqC, ev_ifS, ev_kIfST, ev_kIfSF, ev_for, ev_kFor, ev_next, ev_retN, ev_break, ev_cont, ev_par, ev_kPar, ev_par3, ev_kPar3, ev_gName, ev_gTup, ev_gsNil, ev_gsCons, ev_kGs, ev_gSub, ev_kSub, ev_kSub2, ev_kSub3, ev_kSub4, ev_mut, ev_kMu, ev_kMu2, ev_kMu3, ev_kMu4, ev_catM, ev_kCat, ev_kCat2, ev_catR, vw_non, vw_bl, vw_int, vw_str, vw_lst, vw_tup, vw_dct, vw_ref, vwO_lst, vwO_dct, tru_bl, tru_int, tru_lst, tru_tup, tru_non, add_int, add_lst, add_tup, add_str, sub_int, neg_int, gt_int, ge_int, lt_int, le_int, len_lst, len_tup, len_dct, len_str, int_int, tuple_lst, tuple_tup, list_lst, list_tup, sl_lst, sl_tup, is_non, isnt_non, non_bl, non_int, non_str, non_lst, non_tup, non_non, int_int?, ref_ref?, alt_tup, alt_lst, isi_int_non, isi_int_bl, isi_int_int, isi_int_str, isi_int_lst, isi_int_tup, isi_bool_non, isi_bool_bl, isi_bool_int, isi_bool_str, isi_bool_lst, isi_bool_tup, isi_str_non, isi_str_bl, isi_str_int, isi_str_str, isi_str_lst, isi_str_tup, isi_tuple_non, isi_tuple_bl, isi_tuple_int, isi_tuple_str, isi_tuple_lst, isi_tuple_tup, isi_list_non, isi_list_bl, isi_list_int, isi_list_str, isi_list_lst, isi_list_tup, isi_dict_non, isi_dict_bl, isi_dict_int, isi_dict_str, isi_dict_lst, isi_dict_tup, tyIn_lst2, tyD_lst, tyIn_tup2, tyD_tup, tyIn_str, tyD_str, tyIn_dct, tyD_dct, ev_cStep, ev_kC, ev_kC2T, ev_kC2F, ev_kSome, ev_cStep2, ev_kD, ev_kD2T, ev_kD2F, ev_kD3, ev_lStep, ev_kL, List.getElem?_cons_zero, List.getElem?_cons_succ, Option.join_some, Option.bind_some, Option.map_some, wipeE, List.set_cons_zero, List.set_cons_succ, List.length_cons, List.length_nil, List.map_cons, List.map_nil, gAll, gDef, List.cons_append, List.nil_append, if_true, if_false, Bool.not_true, Bool.not_false, Nat.zero_add, Nat.reduceAdd, Nat.reduceLeDiff, and_true, and_self, true_and, reduceIte, Bool.false_eq_true, $xs,*])
/-! ## the tape and its draws -/
def tapeOb (ns : List Int) (a b c : Int) : Ob := .lst [.lst (ns.map D.int), .int a, .int b, .int c]
/-- a tape with at most n draws behind it -/
def Tp (S : Sto) (i n : Nat) : Prop := ∃ ns a b c, S[i]? = some (tapeOb ns a b c) ∧ 0 ≤ a ∧ 0 ≤ c ∧ c ≤ (n : Int)
/-- only the tape has changed -/
def Ch (S S' : Sto) (i n : Nat) : Prop := (∃ o, S' = S.set i o) ∧ Tp S' i n
theorem Ch.trans {S S1 S2 : Sto} {i n m : Nat} (h : Ch S S1 i n) (k : Ch S1 S2 i m) : Ch S S2 i m := by
  obtain ⟨⟨o, rfl⟩, _⟩ := h
  obtain ⟨⟨o', e⟩, t⟩ := k
  exact ⟨⟨o', by rw [e, List.set_set]⟩, t⟩
theorem Ch.len {S S' : Sto} {i n : Nat} (h : Ch S S' i n) : S'.length = S.length := by
  obtain ⟨⟨o, rfl⟩, _⟩ := h
  simp
theorem Ch.tp {S S' : Sto} {i n : Nat} (h : Ch S S' i n) : Tp S' i n := h.2
theorem set_same {S : Sto} {i : Nat} {o : Ob} (h : S[i]? = some o) : S.set i o = S := by
  apply List.ext_getElem?
  intro j
  by_cases e : i = j
  · subst e
    rw [List.getElem?_set_self (List.getElem?_eq_some_iff.mp h).1, h]
  · rw [List.getElem?_set_ne e]
theorem Ch.refl {S : Sto} {i n : Nat} (h : Tp S i n) : Ch S S i n := by
  obtain ⟨ns, a, b, c, e, _⟩ := h
  exact ⟨⟨tapeOb ns a b c, (set_same e).symm⟩, ⟨ns, a, b, c, e, by assumption⟩⟩
theorem Tp.mono {S : Sto} {i n m : Nat} (h : Tp S i n) (hm : n ≤ m) : Tp S i m := by
  obtain ⟨ns, a, b, c, e, h1, h2, h3⟩ := h
  exact ⟨ns, a, b, c, e, h1, h2, by omega⟩
theorem Ch.mono {S S' : Sto} {i n m : Nat} (h : Ch S S' i n) (hm : n ≤ m) : Ch S S' i m := ⟨h.1, h.2.mono hm⟩
/-- what the others hold stays -/
theorem Ch.other {S S' : Sto} {i n j : Nat} (h : Ch S S' i n) (hj : j ≠ i) : S'[j]? = S[j]? := by
  obtain ⟨⟨o, rfl⟩, _⟩ := h
  rw [List.getElem?_set_ne (Ne.symm hj)]
def SpDraw (F : Fn) : Prop := ∀ (S : Sto) (i n z : Nat), Tp S i n → n ≤ 100000 → 0 < z → z ≤ 1000 → ∃ (v : Nat) (S' : Sto), v < z ∧ F [.ref i, .int (z : Nat)] S = .ok (.int (v : Nat)) S' ∧ Ch S S' i (n + 1)
theorem setAt_lst {S : Sto} {n : Nat} {xs : List D} {k : Int} {j : Nat} {d : D} (h : S[n]? = some (.lst xs)) (hj : ixN xs.length k = some j) : setAt n (.int k) d S = .ok () (S.set n (.lst (xs.set j d))) := by
  unfold setAt
  rw [h]
  simp only [setOb, D.int?, Option.bind_some, hj, Option.map_some]
theorem mod_nat {x : Int} {z : Nat} (hz : 0 < z) : ∃ v : Nat, v < z ∧ x % (z : Int) = (v : Int) := by
  refine ⟨(x % (z : Int)).toNat, ?_, ?_⟩
  · have h1 := Int.emod_lt_of_pos x (show (0 : Int) < (z : Int) by omega)
    have h2 := Int.emod_nonneg x (show (z : Int) ≠ 0 by omega)
    omega
  · have h2 := Int.emod_nonneg x (show (z : Int) ≠ 0 by omega)
    omega
theorem mulD_small {i j : Int} (h : FL.small64 i = true ∨ FL.small64 j = true) : mulD (.int i) (.int j) = some (.int (i * j)) := by
  have c : (FL.small64 i || FL.small64 j) = true := by rcases h with h | h <;> simp [h]
  simp only [mulD, alt, ii, on2, D.int?, guard', c, if_true]
theorem powD_small {i j : Int} (h1 : 0 ≤ j) (h2 : j ≤ 1000) (h3 : i.natAbs < 18446744073709551616) : powD (.int i) (.int j) = some (.int (i ^ j.toNat)) := by
  simp only [powD, ii, on2, D.int?, guard', decide_eq_true (⟨h1, h2, h3⟩ : 0 ≤ j ∧ j ≤ 1000 ∧ i.natAbs < 18446744073709551616), if_true]

def drawT (M0 K1 A1 M1 K2 A2 M2 : Int) : FSx := (sSeq (sAsg (eBin modD (eCallP intD (aCons (eBin powD (eBin addD (eBin addD (eBin modD (eCallP intD (aCons (eVar 4) aNil)) (eC (.int M0))) (eBin mulD (eC (.int K1)) (eBin ixD (eVar 0) (eC (.int 3))))) (eC (.int A1))) (eC (.int 3))) aNil)) (eC (.int M1))) (gName' 5)) (sSeq (sAsg (eBin modD (eCallP intD (aCons (eBin powD (eBin addD (eBin addD (eVar 5) (eBin mulD (eBin mulD (eC (.int K2)) (eBin ixD (eVar 0) (eC (.int 3)))) (eBin ixD (eVar 0) (eC (.int 3))))) (eC (.int A2))) (eC (.int 5))) aNil)) (eC (.int M2))) (gName' 5)) (sRet (eBin modD (eCallP intD (aCons (eBin fdivD (eVar 5) (eC (.int 64))) aNil)) (eVar 1)))))
def drawB (C0 M0 K1 A1 M1 K2 A2 M2 : Int) : FSx := (sSeq (sAsg (eBin addD (eBin ixD (eVar 0) (eC (.int 3))) (eC (.int 1))) (gSub' (eVar 0) (eC (.int 3)))) (sSeq (sIf (asB (eBin gtD (eBin ixD (eVar 0) (eC (.int 2))) (eC (.int 0)))) (sSeq (sAsg (eBin modD (eCallP intD (aCons (eBin ixD (eVar 0) (eC (.int 2))) aNil)) (eVar 1)) (gName' 2)) (sSeq (sAsg (eBin fdivD (eBin ixD (eVar 0) (eC (.int 2))) (eVar 1)) (gSub' (eVar 0) (eC (.int 2)))) (sRet (eVar 2)))) sNext) (sSeq (sAsg (eBin ixD (eVar 0) (eC (.int 1))) (gName' 3)) (sSeq (sAsg (eBin addD (eVar 3) (eC (.int 1))) (gSub' (eVar 0) (eC (.int 1)))) (sSeq (sAsg (eIf (asB (eBin neD (eBin ixD (eVar 0) (eC (.int 0))) (eLst aNil))) (eBin ixD (eBin ixD (eVar 0) (eC (.int 0))) (eBin modD (eCallP intD (aCons (eVar 3) aNil)) (eCallP lenD (aCons (eBin ixD (eVar 0) (eC (.int 0))) aNil)))) (eC (.int C0))) (gName' 4)) (sSeq (sIf (tAnd2 (asB (eBin geD (eVar 4) (eBin powD (eC (.int 10)) (eC (.int 18))))) (asB (eBin ltD (eVar 3) (eCallP lenD (aCons (eBin ixD (eVar 0) (eC (.int 0))) aNil))))) (sSeq (sAsg (eBin fdivD (eVar 4) (eVar 1)) (gSub' (eVar 0) (eC (.int 2)))) (sRet (eBin modD (eCallP intD (aCons (eVar 4) aNil)) (eVar 1)))) sNext) (drawT M0 K1 A1 M1 K2 A2 M2)))))))
theorem ix4 (k : Nat) (h : k < 4) : ixN 4 (k : Int) = some k := by
  unfold ixN
  rw [if_pos (by omega), if_pos (by omega)]
  simp
theorem set_at4 {S : Sto} {i : Nat} (hi : i < S.length) (x0 x1 x2 x3 d : D) (k : Nat) (hk : k < 4) : setAt i (.int (k : Nat)) d (S.set i (.lst [x0, x1, x2, x3])) = .ok () (S.set i (.lst ([x0, x1, x2, x3].set k d))) := by
  have h : (S.set i (.lst [x0, x1, x2, x3]))[i]? = some (Ob.lst [x0, x1, x2, x3]) := List.getElem?_set_self hi
  have q := setAt_lst (d := d) h (show ixN ([x0, x1, x2, x3] : List D).length (k : Int) = some k from ix4 k hk)
  rw [List.set_set] at q
  exact q
section
variable {C0 M0 K1 A1 M1 K2 A2 M2 : Int} {S : Sto} {i z : Nat} {ns : List Int} {a b c : Int}
theorem draw_rest (hi : i < S.length) (hz : 0 < z) (hz2 : z ≤ 1000) (hb : 0 < b) : ∃ v : Nat, v < z ∧ drawB C0 M0 K1 A1 M1 K2 A2 M2 [some (.ref i), some (.int (z : Nat)), none, none, none, none] (S.set i (tapeOb ns a b c)) = .ok (.rt (.int (v : Nat))) (S.set i (tapeOb ns a (b / (z : Int)) (c + 1))) := by
  obtain ⟨v, hv, ev⟩ := mod_nat (x := b) hz
  refine ⟨v, hv, ?_⟩
  have g : ∀ o : Ob, (S.set i o)[i]? = some o := fun o => List.getElem?_set_self hi
  have zz : (0 : Int) < (z : Int) := by omega
  have zb : (z : Int) < 1073741824 := by omega
  have s3 : ∀ (x0 x1 x2 x3 d : D), setAt i (.int 3) d (S.set i (.lst [x0, x1, x2, x3])) = .ok () (S.set i (.lst [x0, x1, x2, d])) := fun x0 x1 x2 x3 d => set_at4 hi x0 x1 x2 x3 d 3 (by omega)
  have s2 : ∀ (x0 x1 x2 x3 d : D), setAt i (.int 2) d (S.set i (.lst [x0, x1, x2, x3])) = .ok () (S.set i (.lst [x0, x1, d, x3])) := fun x0 x1 x2 x3 d => set_at4 hi x0 x1 x2 x3 d 2 (by omega)
  simp_arith only [drawB, tapeOb, g, ixD_lst, atI_2, atI_3, s3, s2, decide_eq_true hb, modD_int zz, fdivD_int zz zb, ev]

theorem small_of {i : Int} (h1 : 0 ≤ i) (h2 : i < 100000000) : FL.small64 i = true := by
  unfold FL.small64
  rw [decide_eq_true (by omega), decide_eq_true (by omega)]
  rfl
theorem draw_tail (m0 : 0 < M0 ∧ M0 < 4294967296) (k1 : 0 ≤ K1 ∧ K1 < 1000000) (a1 : 0 ≤ A1 ∧ A1 < 1000000) (m1 : 0 < M1 ∧ M1 < 4294967296) (k2 : 0 ≤ K2 ∧ K2 < 1000000) (a2 : 0 ≤ A2 ∧ A2 < 1000000) (m2 : 0 < M2 ∧ M2 < 4294967296)
    (hi : i < S.length) (hz : 0 < z) (hc : 0 ≤ c) (hc2 : c ≤ 200000) (cl : Int) (x2 x3 x5 : Option D) : ∃ v : Nat, v < z ∧ drawT M0 K1 A1 M1 K2 A2 M2 [some (.ref i), some (.int (z : Nat)), x2, x3, some (.int cl), x5] (S.set i (tapeOb ns a b c)) = .ok (.rt (.int (v : Nat))) (S.set i (tapeOb ns a b c)) := by
  have g : ∀ o : Ob, (S.set i o)[i]? = some o := fun o => List.getElem?_set_self hi
  have zz : (0 : Int) < (z : Int) := by omega
  have r0 := Int.emod_nonneg cl (show M0 ≠ 0 by omega)
  have r1 := Int.emod_lt_of_pos cl m0.1
  have q1 : 0 ≤ K1 * c := Int.mul_nonneg k1.1 hc
  have q2 : K1 * c ≤ 1000000 * 200000 := Int.mul_le_mul (by omega) hc2 hc (by omega)
  have q3 : 0 ≤ K2 * c := Int.mul_nonneg k2.1 hc
  have q4 : K2 * c ≤ 1000000 * 200000 := Int.mul_le_mul (by omega) hc2 hc (by omega)
  have q5 : 0 ≤ K2 * c * c := Int.mul_nonneg q3 hc
  have q6 : K2 * c * c ≤ 1000000 * 200000 * 200000 := Int.mul_le_mul q4 hc2 hc (by omega)
  have sc : FL.small64 c = true := small_of hc (by omega)
  have p1 := powD_small (i := cl % M0 + K1 * c + A1) (j := 3) (by omega) (by omega) (by omega)
  have t0 := Int.emod_nonneg ((cl % M0 + K1 * c + A1) ^ (3 : Int).toNat) (show M1 ≠ 0 by omega)
  have t1 := Int.emod_lt_of_pos ((cl % M0 + K1 * c + A1) ^ (3 : Int).toNat) m1.1
  generalize ((cl % M0 + K1 * c + A1) ^ (3 : Int).toNat) = w1 at p1 t0 t1
  have p2 := powD_small (i := w1 % M1 + K2 * c * c + A2) (j := 5) (by omega) (by omega) (by omega)
  generalize ((w1 % M1 + K2 * c * c + A2) ^ (5 : Int).toNat) = w2 at p2
  obtain ⟨v, hv, ev⟩ := mod_nat (x := w2 % M2 / 64) hz
  refine ⟨v, hv, ?_⟩
  simp_arith only [drawT, tapeOb, g, ixD_lst, atI_3, mulD_small (.inr sc : FL.small64 K1 = true ∨ FL.small64 c = true), mulD_small (.inr sc : FL.small64 K2 = true ∨ FL.small64 c = true), mulD_small (.inr sc : FL.small64 (K2 * c) = true ∨ FL.small64 c = true), modD_int m0.1, modD_int m1.1, modD_int m2.1, p1, p2, fdivD_int (show (0 : Int) < 64 by omega) (show (64 : Int) < 1073741824 by omega), modD_int zz, ev]

open Classical in
theorem ne_nilL {xs : List D} (h : Pn (.lst xs)) : neD (.lst xs) (.lst []) = some (.bl (!xs.isEmpty)) := by
  rw [neD_pn h ⟨rfl, by simp [dep, deps]⟩]
  congr 3
  cases xs with
  | nil => exact decide_eq_true rfl
  | cons x xs => exact decide_eq_false (fun z => by cases z)
open Classical in
theorem eq_nilL {xs : List D} (h : Pn (.lst xs)) : eqD (.lst xs) (.lst []) = some (.bl xs.isEmpty) := by
  rw [eqD_pn h ⟨rfl, by simp [dep, deps]⟩]
  congr 2
  cases xs with
  | nil => exact decide_eq_true rfl
  | cons x xs => exact decide_eq_false (fun z => by cases z)
open Classical in
theorem ne_nilT {xs : List D} (h : Pn (.tup xs)) : neD (.tup xs) (.tup []) = some (.bl (!xs.isEmpty)) := by
  rw [neD_pn h ⟨rfl, by simp [dep, deps]⟩]
  congr 3
  cases xs with
  | nil => exact decide_eq_true rfl
  | cons x xs => exact decide_eq_false (fun z => by cases z)
open Classical in
theorem eq_nilT {xs : List D} (h : Pn (.tup xs)) : eqD (.tup xs) (.tup []) = some (.bl xs.isEmpty) := by
  rw [eqD_pn h ⟨rfl, by simp [dep, deps]⟩]
  congr 2
  cases xs with
  | nil => exact decide_eq_true rfl
  | cons x xs => exact decide_eq_false (fun z => by cases z)
theorem pn_ints (ns : List Int) : Pn (.lst (ns.map D.int)) := (pk_lst (n := 0) fun d hd => by
  obtain ⟨x, _, rfl⟩ := List.mem_map.mp hd
  exact pk_int 0 _).pn (by omega)
theorem pow18 : powD (.int 10) (.int 18) = some (.int 1000000000000000000) := by
  rw [powD_small (by omega) (by omega) (by decide)]
  rfl
theorem draw_cell (c0 : C0 < 1000000) (m0 : 0 < M0 ∧ M0 < 4294967296) (k1 : 0 ≤ K1 ∧ K1 < 1000000) (a1 : 0 ≤ A1 ∧ A1 < 1000000) (m1 : 0 < M1 ∧ M1 < 4294967296) (k2 : 0 ≤ K2 ∧ K2 < 1000000) (a2 : 0 ≤ A2 ∧ A2 < 1000000) (m2 : 0 < M2 ∧ M2 < 4294967296)
    (hi : i < S.length) (hz : 0 < z) (hz2 : z ≤ 1000) (ha : 0 ≤ a) (hc : 0 ≤ c) (hc2 : c ≤ 100000) (hb : ¬ 0 < b) : ∃ (v : Nat) (b' : Int), v < z ∧ drawB C0 M0 K1 A1 M1 K2 A2 M2 [some (.ref i), some (.int (z : Nat)), none, none, none, none] (S.set i (tapeOb ns a b c)) = .ok (.rt (.int (v : Nat))) (S.set i (tapeOb ns (a + 1) b' (c + 1))) := by
  have g : ∀ o : Ob, (S.set i o)[i]? = some o := fun o => List.getElem?_set_self hi
  have zz : (0 : Int) < (z : Int) := by omega
  have zb : (z : Int) < 1073741824 := by omega
  have s3 : ∀ (x0 x1 x2 x3 d : D), setAt i (.int 3) d (S.set i (.lst [x0, x1, x2, x3])) = .ok () (S.set i (.lst [x0, x1, x2, d])) := fun x0 x1 x2 x3 d => set_at4 hi x0 x1 x2 x3 d 3 (by omega)
  have s2 : ∀ (x0 x1 x2 x3 d : D), setAt i (.int 2) d (S.set i (.lst [x0, x1, x2, x3])) = .ok () (S.set i (.lst [x0, x1, d, x3])) := fun x0 x1 x2 x3 d => set_at4 hi x0 x1 x2 x3 d 2 (by omega)
  have s1 : ∀ (x0 x1 x2 x3 d : D), setAt i (.int 1) d (S.set i (.lst [x0, x1, x2, x3])) = .ok () (S.set i (.lst [x0, d, x2, x3])) := fun x0 x1 x2 x3 d => set_at4 hi x0 x1 x2 x3 d 1 (by omega)
  have nn := ne_nilL (pn_ints ns)
  have tail := fun cl x2 x3 x5 => draw_tail (S := S) (ns := ns) (a := a + 1) (b := b) (c := c + 1) m0 k1 a1 m1 k2 a2 m2 hi hz (by omega) (by omega) cl x2 x3 x5
  simp only [tapeOb] at tail ⊢
  cases ns with
  | nil =>
    obtain ⟨v, hv, e⟩ := tail C0 none (some (.int a)) none
    refine ⟨v, b, hv, ?_⟩
    simp only [List.map_nil] at nn e
    simp_arith only [drawB, g, nn, few0, ixD_lst, atI_0, atI_1, atI_2, atI_3, s3, s1, decide_eq_false hb, pow18, show decide ((1000000000000000000 : Int) ≤ C0) = false from decide_eq_false (by omega), List.isEmpty_nil, e]
  | cons x xs =>
    have hl : (0 : Int) < (((x :: xs).map D.int).length : Int) := by simp
    obtain ⟨k, hk, ek⟩ := mod_nat (x := a) (z := ((x :: xs).map D.int).length) (by simp)
    have hk' : k < (x :: xs).length := by simpa using hk
    have gk : ((x :: xs).map D.int)[k]? = some (.int ((x :: xs)[k])) := by rw [List.getElem?_map, List.getElem?_eq_getElem hk']; rfl
    generalize (x :: xs)[k] = cl at gk
    have ne : ((x :: xs).map D.int).isEmpty = false := rfl
    rw [ne] at nn
    generalize (x :: xs).map D.int = ys at *
    by_cases h1 : 1000000000000000000 ≤ cl
    · by_cases h2 : a < (ys.length : Int)
      · obtain ⟨v, hv, ev⟩ := mod_nat (x := cl) hz
        refine ⟨v, cl / (z : Int), hv, ?_⟩
        simp_arith only [drawB, g, nn, few0, ixD_lst, atI_0, atI_1, atI_2, atI_3, s3, s2, s1, decide_eq_false hb, pow18, modD_int hl, ek, atI_nat gk, decide_eq_true h1, decide_eq_true h2, fdivD_int zz zb, modD_int zz, ev]
      · obtain ⟨v, hv, e⟩ := tail cl none (some (.int a)) none
        refine ⟨v, b, hv, ?_⟩
        simp_arith only [drawB, g, nn, few0, ixD_lst, atI_0, atI_1, atI_2, atI_3, s3, s1, decide_eq_false hb, pow18, modD_int hl, ek, atI_nat gk, decide_eq_true h1, decide_eq_false h2, e]
    · obtain ⟨v, hv, e⟩ := tail cl none (some (.int a)) none
      refine ⟨v, b, hv, ?_⟩
      simp_arith only [drawB, g, nn, few0, ixD_lst, atI_0, atI_1, atI_2, atI_3, s3, s1, decide_eq_false hb, pow18, modD_int hl, ek, atI_nat gk, decide_eq_false h1, e]
theorem draw_ok (c0 : C0 < 1000000) (m0 : 0 < M0 ∧ M0 < 4294967296) (k1 : 0 ≤ K1 ∧ K1 < 1000000) (a1 : 0 ≤ A1 ∧ A1 < 1000000) (m1 : 0 < M1 ∧ M1 < 4294967296) (k2 : 0 ≤ K2 ∧ K2 < 1000000) (a2 : 0 ≤ A2 ∧ A2 < 1000000) (m2 : 0 < M2 ∧ M2 < 4294967296) :
    SpDraw (dBody false 6 (drawB C0 M0 K1 A1 M1 K2 A2 M2)) := by
  intro S i n z ht hn hz hz2
  obtain ⟨ns, a, b, c, e, ha, hc, hcn⟩ := ht
  have hi : i < S.length := (List.getElem?_eq_some_iff.mp e).1
  have g : ∀ o : Ob, (S.set i o)[i]? = some o := fun o => List.getElem?_set_self hi
  show ∃ (v : Nat) (S' : Sto), v < z ∧ doneR false S (drawB C0 M0 K1 A1 M1 K2 A2 M2 [some (.ref i), some (.int (z : Nat)), none, none, none, none] S) = .ok (.int (v : Nat)) S' ∧ Ch S S' i (n + 1)
  by_cases hb : 0 < b
  · obtain ⟨v, hv, q⟩ := draw_rest (C0 := C0) (M0 := M0) (K1 := K1) (A1 := A1) (M1 := M1) (K2 := K2) (A2 := A2) (M2 := M2) (S := S) (ns := ns) (a := a) (b := b) (c := c) hi hz hz2 hb
    rw [set_same e] at q
    rw [q]
    exact ⟨v, _, hv, done_rt S _ _ (by simp), ⟨_, rfl⟩, ns, a, _, c + 1, g _, ha, by omega, by omega⟩
  · obtain ⟨v, b', hv, q⟩ := draw_cell (S := S) (ns := ns) (a := a) (b := b) (c := c) c0 m0 k1 a1 m1 k2 a2 m2 hi hz hz2 ha hc (by omega) hb
    rw [set_same e] at q
    rw [q]
    exact ⟨v, _, hv, done_rt S _ _ (by simp), ⟨_, rfl⟩, ns, a + 1, b', c + 1, g _, by omega, by omega, by omega⟩
end
end SS
end

section
set_option Elab.async false
set_option linter.all false
set_option maxRecDepth 100000
set_option autoImplicit false
set_option maxHeartbeats 4000000
namespace SS
open PySem PySem.Spec PyProof.Rows L2 FL
local macro_rules
  | `(tactic| simp_arith only [$xs,*]) => `(tactic| simp (config := { implicitDefEqProofs := false }) only [tn_ok, oR_some, nx_ok, ev_var, ev_c, ev_bin, ev_kBin1, ev_kBin2, ev_un, ev_kUn, ev_asB, ev_kB, ev_asT, ev_kT, ev_tAnd2, ev_kAndT, ev_kAndF, ev_tOr2, ev_kOrT, ev_kOrF, ev_not, ev_kNot, ev_eAnd2, ev_kAndE, ev_kAndET, ev_kAndEF, ev_eOr2, ev_kOrE, ev_kOrET, ev_kOrEF, ev_eNot1, ev_kNotE, ev_kNotE2, ev_if, ev_kIfT, ev_kIfF, ev_aNil, ev_aCons, ev_kCons, ev_kCons2, ev_aStar, ev_kStar, ev_kStar2, ev_kStar3, ev_eTup, ev_kTup, ev_kTup2, ev_eLst, ev_kLst, ev_kLst2, ev_eNewL, ev_kNewL, ev_kNewL2, ev_newD, ev_callP, ev_kCallP, ev_call, ev_kCall, ev_kCall2, ev_oNone, ev_oSome, ev_kO, ev_kO2, ev_sl, ev_kSl, ev_kSl2, ev_kSl3, ev_meth, ev_kM, ev_kM2, ev_kM3, ev_meth0, ev_kM0, ev_chain, ev_kCh, ev_kCh2, ev_kCh3T, ev_kCh3F, ev_kCh4, ev_kLs, ev_kComp, ev_comp, ev_kRef, ev_compM, ev_kComp2, ev_comp2, ev_iSeq, ev_kIt, ev_iRange, ev_kRg, ev_enT, ev_enL, ev_iEnum, items_lst, items_tup, items_str, ev_true, ev_ret, ev_kRet, ev_expr, ev_kEx, ev_asg, ev_kAsg, ev_kNx, ev_seq, ev_kSeqN, ev_kSeqR, ev_kSeqB, ev_kSeqC, ev_ifS, ev_kIfST, ev_kIfSF, ev_for, ev_kFor, ev_next, ev_retN, ev_break, ev_cont, ev_par, ev_kPar, ev_par3, ev_kPar3, ev_gName, ev_gTup, ev_gsNil, ev_gsCons, ev_kGs, ev_gSub, ev_kSub, ev_kSub2, ev_kSub3, ev_kSub4, ev_mut, ev_kMu, ev_kMu2, ev_kMu3, ev_kMu4, ev_catM, ev_kCat, ev_kCat2, ev_catR, vw_non, vw_bl, vw_int, vw_str, vw_lst, vw_tup, vw_dct, vw_ref, vwO_lst, vwO_dct, tru_bl, tru_int, tru_lst, tru_tup, tru_non, add_int, add_lst, add_tup, add_str, sub_int, neg_int, gt_int, ge_int, lt_int, le_int, len_lst, len_tup, len_dct, len_str, int_int, tuple_lst, tuple_tup, list_lst, list_tup, sl_lst, sl_tup, is_non, isnt_non, non_bl, non_int, non_str, non_lst, non_tup, non_non, int_int?, ref_ref?, alt_tup, alt_lst, isi_int_non, isi_int_bl, isi_int_int, isi_int_str, isi_int_lst, isi_int_tup, isi_bool_non, isi_bool_bl, isi_bool_int, isi_bool_str, isi_bool_lst, isi_bool_tup, isi_str_non, isi_str_bl, isi_str_int, isi_str_str, isi_str_lst, isi_str_tup, isi_tuple_non, isi_tuple_bl, isi_tuple_int, isi_tuple_str, isi_tuple_lst, isi_tuple_tup, isi_list_non, isi_list_bl, isi_list_int, isi_list_str, isi_list_lst, isi_list_tup, isi_dict_non, isi_dict_bl, isi_dict_int, isi_dict_str, isi_dict_lst, isi_dict_tup, tyIn_lst2, tyD_lst, tyIn_tup2, tyD_tup, tyIn_str, tyD_str, tyIn_dct, tyD_dct, ev_cStep, ev_kC, ev_kC2T, ev_kC2F, ev_kSome, ev_cStep2, ev_kD, ev_kD2T, ev_kD2F, ev_kD3, ev_lStep, ev_kL, List.getElem?_cons_zero, List.getElem?_cons_succ, Option.join_some, Option.bind_some, Option.map_some, wipeE, List.set_cons_zero, List.set_cons_succ, List.length_cons, List.length_nil, List.map_cons, List.map_nil, gAll, gDef, List.cons_append, List.nil_append, if_true, if_false, Bool.not_true, Bool.not_false, Nat.zero_add, Nat.reduceAdd, Nat.reduceLeDiff, and_true, and_self, true_and, reduceIte, Bool.false_eq_true, $xs,*])
def SpPick (F : Fn) : Prop := ∀ (S : Sto) (i n : Nat) (xs : List D) (b : Bool), Tp S i n → n ≤ 100000 → xs ≠ [] → xs.length ≤ 1000 → ∃ (j : Nat) (x : D) (S' : Sto), xs[j]? = some x ∧ F [.ref i, if b then .lst xs else .tup xs] S = .ok x S' ∧ Ch S S' i (n + 1)
theorem law_pick_ok {F1 : Fn} (h1 : SpDraw F1) : SpPick (dBody false 2 (B__law_pick F1)) := by
  intro S i n xs b ht hn hx hl
  obtain ⟨v, S', hv, e, ch⟩ := h1 S i n xs.length ht hn (List.length_pos_iff.mpr hx) hl
  have gx : xs[v]? = some xs[v] := List.getElem?_eq_getElem hv
  refine ⟨v, xs[v], S', gx, ?_, ch⟩
  show doneR false S (B__law_pick F1 [some (.ref i), some (if b then .lst xs else .tup xs)] S) = _
  cases b with
  | true => simp_arith only [B__law_pick, e, ixD_lst, atI_nat gx, done_rt S S' _ ch.len]
  | false => simp_arith only [B__law_pick, e, ixD_tup, atI_nat gx, done_rt S S' _ ch.len]
/-! ## a road -/
theorem lastSt_app (p : Pg) : ∀ (es : List Ev) (s : St) (e : Ev), lastSt p s (es ++ [e]) = afterE p (lastSt p s es) e
  | [], s, e => rfl
  | x :: es, s, e => lastSt_app p es (afterE p s x) e
theorem okRoad_app {p : Pg} : ∀ {es : List Ev} {s : St} {e : Ev}, okRoad p s es → e ∈ p.evs → canE p (lastSt p s es) e = true → okRoad p s (es ++ [e])
  | [], s, e, _, h1, h2 => ⟨h1, h2, trivial⟩
  | x :: es, s, e, ⟨a, b, c⟩, h1, h2 => ⟨a, b, okRoad_app c h1 h2⟩

def roadBody (F1 F3 F4 : Fn) : FSx := (sSeq (sAsg (eCall 2 0 gAll F3 (aCons (eVar 1) (aCons (eVar 3) aNil)) aNil) (gName' 6)) (sSeq (sIf (asB (eBin eqD (eVar 6) (eLst aNil))) (sRet (eVar 4)) sNext) (sSeq (sAsg (eBin addD (eVar 4) (eTup (aCons (eCall 2 0 gAll F4 (aCons (eVar 0) (aCons (eVar 6) aNil)) aNil) aNil))) (gName' 4)) (sAsg (eCall 3 0 gAll F1 (aCons (eVar 1) (aCons (eVar 3) (aCons (eBin ixD (eVar 4) (eUn negD (eC (.int 1)))) aNil))) aNil) (gName' 3)))))
theorem road_loop {p : Pg} (ok : p.Ok) {F1 F3 F4 : Fn} (h1 : SpBehind F1) (h3 : SpOpen F3) (h4 : SpPick F4) (i : Nat) (x2 : D) :
    ∀ (ks : List Nat) (es : List Ev) (S : Sto) (n : Nat) (x5 x6 : Option D), Tp S i n → n + ks.length ≤ 100000 → okRoad p p.begun es → es.length + ks.length ≤ 1000 →
      ∃ (es' : List Ev) (S' : Sto), okRoad p p.begun es' ∧ es'.length ≤ es.length + ks.length ∧ Ch S S' i (n + ks.length) ∧
        (loopD (gName' 5) (roadBody F1 F3 F4) (ks.map fun k => D.int (k : Nat)) [some (.ref i), some p.d, some x2, some (lastSt p p.begun es).d, some (.tup (es.map evD)), x5, x6] S = .ok (.rt (.tup (es'.map evD))) S' ∨
         ∃ y3 y5 y6, loopD (gName' 5) (roadBody F1 F3 F4) (ks.map fun k => D.int (k : Nat)) [some (.ref i), some p.d, some x2, some (lastSt p p.begun es).d, some (.tup (es.map evD)), x5, x6] S = .ok (.nx [some (.ref i), some p.d, some x2, y3, some (.tup (es'.map evD)), y5, y6]) S')
  | [], es, S, n, x5, x6, ht, _, hr, _ => ⟨es, S, hr, by simp, Ch.refl ht, .inr ⟨_, _, _, rfl⟩⟩
  | k :: ks, es, S, n, x5, x6, ht, hn, hr, hl => by
    rw [List.length_cons] at hn hl
    have so : (lastSt p p.begun es).Ok p := lastSt_ok (begun_ok p)
    have e3 := h3 p (lastSt p p.begun es) S ok so
    have pn : Pn (.lst ((p.evs.filter (canE p (lastSt p p.begun es))).map evD)) := (pk_evs _).pn (by omega)
    have q0 := eq_nilL pn
    cases ho : p.evs.filter (canE p (lastSt p p.begun es)) with
    | nil =>
      rw [ho] at e3 q0
      refine ⟨es, S, hr, by omega, (Ch.refl ht).mono (by omega), .inl ?_⟩
      rw [List.map_cons, loopD_cons]
      simp only [List.map_nil] at e3 q0
      have st : lStep (gName' 5) (roadBody F1 F3 F4) (.int (k : Nat)) [some (.ref i), some p.d, some x2, some (lastSt p p.begun es).d, some (.tup (es.map evD)), x5, x6] S = .ok (.rt (.tup (es.map evD))) S := by
        simp_arith only [roadBody, e3, few0, q0, List.isEmpty_nil]
      simp only [bnd, st]
      rfl
    | cons o os =>
      rw [ho] at e3 q0
      have hne : ((o :: os).map evD) ≠ [] := by simp
      have hlen : ((o :: os).map evD).length ≤ 1000 := by
        have a1 := len_evs ok
        have a2 := List.length_filter_le (canE p (lastSt p p.begun es)) p.evs
        rw [ho] at a2
        rw [List.length_map]
        omega
      obtain ⟨j, x, S1, gj, e4, ch⟩ := h4 S i n ((o :: os).map evD) true ht (by omega) hne hlen
      rw [if_pos rfl] at e4
      obtain ⟨ev, hev, rfl⟩ : ∃ ev, ev ∈ o :: os ∧ x = evD ev := by
        obtain ⟨ev, h1, h2⟩ := List.mem_map.mp (List.mem_of_getElem? gj)
        exact ⟨ev, h1, h2.symm⟩
      rw [← ho] at hev
      obtain ⟨hm, hcan⟩ := List.mem_filter.mp hev
      obtain ⟨hn1, a, ha⟩ := evs_mem ok hm
      have e1 := h1 p (lastSt p p.begun es) ev a S1 ok so hn1 ha
      rw [← afterE_eq ha, ← lastSt_app] at e1
      have hr' := okRoad_app hr hm hcan
      obtain ⟨es', S', r1, r2, r3, r4⟩ := road_loop ok h1 h3 h4 i x2 ks (es ++ [ev]) S1 (n + 1) (some (.int (k : Nat))) (some (.lst ((o :: os).map evD))) ch.tp (by omega) hr' (by rw [List.length_append, List.length_singleton]; omega)
      refine ⟨es', S', r1, by rw [List.length_append, List.length_singleton] at r2; rw [List.length_cons]; omega, ch.trans (r3.mono (by rw [List.length_cons]; omega)), ?_⟩
      have la : atI ((es ++ [ev]).map evD) (-1) = some (evD ev) := atI_last (by simp)
      have ap : es.map evD ++ [evD ev] = (es ++ [ev]).map evD := by simp
      have ie : ((o :: os).map evD).isEmpty = false := rfl
      rw [ie] at q0
      generalize (o :: os).map evD = ops at *
      have cp : (es.map evD).length + 1 ≤ 1000000 := by rw [List.length_map]; omega
      have st : lStep (gName' 5) (roadBody F1 F3 F4) (.int (k : Nat)) [some (.ref i), some p.d, some x2, some (lastSt p p.begun es).d, some (.tup (es.map evD)), x5, x6] S = .ok (.nx [some (.ref i), some p.d, some x2, some (lastSt p p.begun (es ++ [ev])).d, some (.tup ((es ++ [ev]).map evD)), some (.int (k : Nat)), some (.lst ops)]) S1 := by
        simp_arith only [roadBody, e3, few0, few1, q0, e4, cap_ok cp, ap, ixD_tup, la, e1]
      rw [List.map_cons, loopD_cons]
      simp only [bnd, st]
      exact r4

def SpRoad (F : Fn) : Prop := ∀ (S : Sto) (i n m : Nat) (p : Pg), Tp S i n → n + m ≤ 100000 → m ≤ 1000 → p.Ok → ∃ (es : List Ev) (S' : Sto), okRoad p p.begun es ∧ es.length ≤ m ∧ F [.ref i, p.d, .int (m : Nat)] S = .ok (.tup (es.map evD)) S' ∧ Ch S S' i (n + m)
theorem law_road_ok {F1 F2 F3 F4 : Fn} (h1 : SpBehind F1) (h2 : SpFirst F2) (h3 : SpOpen F3) (h4 : SpPick F4) : SpRoad (dBody false 7 (B__law_road F1 F2 F3 F4)) := by
  intro S i n m p ht hn hm ok
  obtain ⟨es, S', r1, r2, r3, r4⟩ := road_loop ok h1 h3 h4 i (.int (m : Nat)) (List.range m) [] S n none none ht (by simpa using hn) trivial (by simpa using hm)
  simp only [List.length_range, List.length_nil, Nat.zero_add] at r2 r3
  refine ⟨es, S', r1, r2, ?_, r3⟩
  show doneR false S (B__law_road F1 F2 F3 F4 [some (.ref i), some p.d, some (.int (m : Nat)), none, none, none, none] S) = _
  have rb : roadBody F1 F3 F4 = roadBody F1 F3 F4 := rfl
  simp only [List.map_nil, lastSt, roadBody] at r4
  rcases r4 with e | ⟨y3, y5, y6, e⟩
  · simp_arith only [B__law_road, h2 p S ok, few0, range1 (show m ≤ 1000000 by omega), e, done_rt S S' _ r3.len]
  · simp_arith only [B__law_road, h2 p S ok, few0, range1 (show m ≤ 1000000 by omega), e, done_rt S S' _ r3.len]
end SS
end

section
set_option Elab.async false
set_option linter.all false
set_option maxRecDepth 100000
set_option autoImplicit false
set_option maxHeartbeats 4000000
namespace SS
open PySem PySem.Spec PyProof.Rows L2 FL
local macro_rules
  | `(tactic| simp_arith only [$xs,*]) => `(tactic| simp (config := { implicitDefEqProofs := false }) only [tn_ok, oR_some, nx_ok, ev_var, ev_c, ev_bin, ev_kBin1, ev_kBin2, ev_un, ev_kUn, ev_asB, ev_kB, ev_asT, ev_kT, ev_tAnd2, ev_kAndT, ev_kAndF, ev_tOr2, ev_kOrT, ev_kOrF, ev_not, ev_kNot, ev_eAnd2, ev_kAndE, ev_kAndET, ev_kAndEF, ev_eOr2, ev_kOrE, ev_kOrET, ev_kOrEF, ev_eNot1, ev_kNotE, ev_kNotE2, ev_if, ev_kIfT, ev_kIfF, ev_aNil, ev_aCons, ev_kCons, ev_kCons2, ev_aStar, ev_kStar, ev_kStar2, ev_kStar3, ev_eTup, ev_kTup, ev_kTup2, ev_eLst, ev_kLst, ev_kLst2, ev_eNewL, ev_kNewL, ev_kNewL2, ev_newD, ev_callP, ev_kCallP, ev_call, ev_kCall, ev_kCall2, ev_oNone, ev_oSome, ev_kO, ev_kO2, ev_sl, ev_kSl, ev_kSl2, ev_kSl3, ev_meth, ev_kM, ev_kM2, ev_kM3, ev_meth0, ev_kM0, ev_chain, ev_kCh, ev_kCh2, ev_kCh3T, ev_kCh3F, ev_kCh4, ev_kLs, ev_kComp, ev_comp, ev_kRef, ev_compM, ev_kComp2, ev_comp2, ev_iSeq, ev_kIt, ev_iRange, ev_kRg, ev_enT, ev_enL, ev_iEnum, items_lst, items_tup, items_str, ev_true, ev_ret, ev_kRet, ev_expr, ev_kEx, ev_asg, ev_kAsg, ev_kNx, ev_seq, ev_kSeqN, ev_kSeqR, ev_kSeqB, ev_kSeqC, ev_ifS, ev_kIfST, ev_kIfSF, ev_for, ev_kFor, ev_next, ev_retN, ev_break, ev_cont, ev_par, ev_kPar, ev_par3, ev_kPar3, ev_gName, ev_gTup, ev_gsNil, ev_gsCons, ev_kGs, ev_gSub, ev_kSub, ev_kSub2, ev_kSub3, ev_kSub4, ev_mut, ev_kMu, ev_kMu2, ev_kMu3, ev_kMu4, ev_catM, ev_kCat, ev_kCat2, ev_catR, vw_non, vw_bl, vw_int, vw_str, vw_lst, vw_tup, vw_dct, vw_ref, vwO_lst, vwO_dct, tru_bl, tru_int, tru_lst, tru_tup, tru_non, add_int, add_lst, add_tup, add_str, sub_int, neg_int, gt_int, ge_int, lt_int, le_int, len_lst, len_tup, len_dct, len_str, int_int, tuple_lst, tuple_tup, list_lst, list_tup, sl_lst, sl_tup, is_non, isnt_non, non_bl, non_int, non_str, non_lst, non_tup, non_non, int_int?, ref_ref?, alt_tup, alt_lst, isi_int_non, isi_int_bl, isi_int_int, isi_int_str, isi_int_lst, isi_int_tup, isi_bool_non, isi_bool_bl, isi_bool_int, isi_bool_str, isi_bool_lst, isi_bool_tup, isi_str_non, isi_str_bl, isi_str_int, isi_str_str, isi_str_lst, isi_str_tup, isi_tuple_non, isi_tuple_bl, isi_tuple_int, isi_tuple_str, isi_tuple_lst, isi_tuple_tup, isi_list_non, isi_list_bl, isi_list_int, isi_list_str, isi_list_lst, isi_list_tup, isi_dict_non, isi_dict_bl, isi_dict_int, isi_dict_str, isi_dict_lst, isi_dict_tup, tyIn_lst2, tyD_lst, tyIn_tup2, tyD_tup, tyIn_str, tyD_str, tyIn_dct, tyD_dct, ev_cStep, ev_kC, ev_kC2T, ev_kC2F, ev_kSome, ev_cStep2, ev_kD, ev_kD2T, ev_kD2F, ev_kD3, ev_lStep, ev_kL, List.getElem?_cons_zero, List.getElem?_cons_succ, Option.join_some, Option.bind_some, Option.map_some, wipeE, List.set_cons_zero, List.set_cons_succ, List.length_cons, List.length_nil, List.map_cons, List.map_nil, gAll, gDef, List.cons_append, List.nil_append, if_true, if_false, Bool.not_true, Bool.not_false, Nat.zero_add, Nat.reduceAdd, Nat.reduceLeDiff, and_true, and_self, true_and, reduceIte, Bool.false_eq_true, $xs,*])
/-! ## names -/
def ch1 (c : Nat) : Str := ⟨#[c]⟩
theorem ch1_inj {a b : Nat} (h : ch1 a = ch1 b) : a = b := by
  have : (ch1 a).cps.toList = (ch1 b).cps.toList := by rw [h]
  simpa [ch1] using this
def nmAt (pool : List Str) (st sr k : Nat) : Str := pool.getD ((st + k * sr) % pool.length) ""
def nmKV (pool : List Str) (os : List Nat) (st sr m : Nat) : List (Key × D) := (List.range m).map fun k => (.inr (ch1 (os.getD k 0)), .str (nmAt pool st sr k))
theorem ix_str {x : Str} {k : Nat} {c : Nat} (hl : x.length ≤ 1000) (h : x.cps.toList[k]? = some c) : ixD (.str x) (.int (k : Nat)) = some (.str (ch1 c)) := by
  simp only [ixD, alt, on2, D.lst?, D.tup?, D.int?, D.str?, D.dct?]
  rw [if_pos (by omega), atI_nat h]
  rfl
theorem putD_new {kvs : List (Key × D)} {k : Key} {v : D} (h : ∀ q ∈ kvs, q.1 ≠ k) : putD kvs k v = kvs ++ [(k, v)] := by
  unfold putD
  rw [if_neg]
  rw [List.any_eq_true]
  rintro ⟨q, hq, e⟩
  exact h q hq (of_decide_eq_true e)
theorem setAt_dct {S : Sto} {n : Nat} {kvs : List (Key × D)} {x : Str} {d : D} (h : S[n]? = some (.dct kvs)) (hl : kvs.length < 1000000) : setAt n (.str x) d S = .ok () (S.set n (.dct (putD kvs (.inr x) d))) := by
  unfold setAt
  rw [h]
  simp only [setOb, D.key?, Option.bind_some, hl, if_true]
theorem loopD_step {b : FGx} {body : FSx} {d : D} {ds : List D} {r r' : FL.Env} {S S' : Sto} (h : lStep b body d r S = .ok (.nx r') S') : loopD b body (d :: ds) r S = loopD b body ds r' S' := by
  rw [loopD_cons]
  simp only [bnd, h]
def nmBody : FSx := (sAsg (eBin ixD (eVar 1) (eBin modD (eCallP FL.intD (aCons (eBin addD (eVar 3) (eBin mulD (eVar 6) (eVar 4))) aNil)) (eCallP lenD (aCons (eVar 1) aNil)))) (gSub' (eVar 5) (eBin ixD (eVar 2) (eVar 6))))
theorem nm_loop {pool : List Str} {olds : Str} {st sr : Nat} (i : Nat) (S : Sto) (hp : 0 < pool.length) (hp2 : pool.length ≤ 1000) (ho : olds.length ≤ 1000) (nd : olds.cps.toList.Nodup) :
    ∀ (len m : Nat) (x6 : Option D), m + len = olds.cps.toList.length → ∃ y6, loopD (gName' 6) nmBody
      ((List.range' m len).map fun k : Nat => D.int (k : Nat)) [some (.ref i), some (.lst (pool.map D.str)), some (.str olds), some (.int (st : Nat)), some (.int (sr : Nat)), some (.ref S.length), x6] (S ++ [.dct (nmKV pool olds.cps.toList st sr m)])
      = .ok (.nx [some (.ref i), some (.lst (pool.map D.str)), some (.str olds), some (.int (st : Nat)), some (.int (sr : Nat)), some (.ref S.length), y6]) (S ++ [.dct (nmKV pool olds.cps.toList st sr (m + len))])
  | 0, m, x6, _ => ⟨x6, rfl⟩
  | len + 1, m, x6, h => by
    obtain ⟨y6, ih⟩ := nm_loop i S hp hp2 ho nd len (m + 1) (some (.int (m : Nat))) (by omega)
    refine ⟨y6, ?_⟩
    rw [List.range'_succ, List.map_cons]
    have hm : m < olds.cps.toList.length := by omega
    have hlen : olds.cps.toList.length = olds.length := rfl
    have g1 : olds.cps.toList[m]? = some (olds.cps.toList.getD m 0) := by
      rw [List.getElem?_eq_getElem hm, List.getD_eq_getElem?_getD, List.getElem?_eq_getElem hm]
      rfl
    have hq : (st + m * sr) % pool.length < pool.length := Nat.mod_lt _ hp
    have g2 : (pool.map D.str)[(st + m * sr) % pool.length]? = some (.str (nmAt pool st sr m)) := by
      unfold nmAt
      rw [List.getElem?_map, List.getElem?_eq_getElem hq, List.getD_eq_getElem?_getD, List.getElem?_eq_getElem hq]
      rfl
    have e1 : ((st : Int) + (m : Int) * (sr : Int)) % (((pool.map D.str).length : Nat) : Int) = (((st + m * sr) % pool.length : Nat) : Int) := by
      rw [List.length_map]
      push_cast
      rfl
    have hl0 : (0 : Int) < (((pool.map D.str).length : Nat) : Int) := by rw [List.length_map]; omega
    have sm : FL.small64 (m : Int) = true := small_of (by omega) (by omega)
    have kl : (nmKV pool olds.cps.toList st sr m).length < 1000000 := by
      unfold nmKV
      rw [List.length_map, List.length_range]
      omega
    have sa := setAt_dct (S := S ++ [.dct (nmKV pool olds.cps.toList st sr m)]) (n := S.length) (x := ch1 (olds.cps.toList.getD m 0)) (d := .str (nmAt pool st sr m)) (app_get S _) kl
    rw [app_set, putD_new (fun q hq e => by
      obtain ⟨k, hk, rfl⟩ := List.mem_map.mp hq
      have hk' : k < m := by simpa using hk
      have e' : olds.cps.toList.getD k 0 = olds.cps.toList.getD m 0 := ch1_inj (Sum.inr.inj e)
      rw [List.getD_eq_getElem?_getD, List.getD_eq_getElem?_getD, List.getElem?_eq_getElem (by omega), List.getElem?_eq_getElem hm] at e'
      have := (List.getElem_inj nd).mp e'
      omega)] at sa
    have kv : nmKV pool olds.cps.toList st sr m ++ [(.inr (ch1 (olds.cps.toList.getD m 0)), .str (nmAt pool st sr m))] = nmKV pool olds.cps.toList st sr (m + 1) := by
      unfold nmKV
      rw [List.range_succ, List.map_append]
      rfl
    rw [kv] at sa
    have st' : lStep (gName' 6) nmBody (.int (m : Nat)) [some (.ref i), some (.lst (pool.map D.str)), some (.str olds), some (.int (st : Nat)), some (.int (sr : Nat)), some (.ref S.length), x6] (S ++ [.dct (nmKV pool olds.cps.toList st sr m)]) = .ok (.nx [some (.ref i), some (.lst (pool.map D.str)), some (.str olds), some (.int (st : Nat)), some (.int (sr : Nat)), some (.ref S.length), some (.int (m : Nat))]) (S ++ [.dct (nmKV pool olds.cps.toList st sr (m + 1))]) := by
      simp_arith only [nmBody, mulD_small (.inl sm : FL.small64 (m : Int) = true ∨ FL.small64 (sr : Int) = true), modD_int hl0, e1, ixD_lst, atI_nat g2, ix_str (by omega) g1, sa]
    rw [loopD_step st', ih, show m + 1 + len = m + (len + 1) by omega]
/-! ## stores that grow -/
theorem Tp.lt {S : Sto} {i n : Nat} (h : Tp S i n) : i < S.length := by
  obtain ⟨_, _, _, _, e, _⟩ := h
  exact (List.getElem?_eq_some_iff.mp e).1
theorem Tp.app {S : Sto} {i n : Nat} (h : Tp S i n) (X : Sto) : Tp (S ++ X) i n := by
  have hi := h.lt
  obtain ⟨ns, a, b, c, e, r⟩ := h
  exact ⟨ns, a, b, c, by rw [List.getElem?_append_left hi]; exact e, r⟩
theorem Ch.split {S X S2 : Sto} {i n : Nat} (h : Ch (S ++ X) S2 i n) (hi : i < S.length) : ∃ S', S2 = S' ++ X ∧ Ch S S' i n := by
  obtain ⟨⟨o, rfl⟩, ns, a, b, c, e, r⟩ := h
  rw [List.set_append_left _ _ hi] at e ⊢
  refine ⟨S.set i o, rfl, ⟨o, rfl⟩, ns, a, b, c, ?_, r⟩
  rw [List.getElem?_append_left (by simpa using hi)] at e
  exact e
theorem ltAll_ints (n : Nat) : ∀ ns : List Int, D.ltAll n (ns.map D.int) = true
  | [] => rfl
  | x :: xs => by simp only [List.map_cons, D.ltAll, D.lt, ltAll_ints n xs, Bool.and_self]
theorem lt_tape (n : Nat) (ns : List Int) (a b c : Int) : (tapeOb ns a b c).lt n = true := by
  simp only [tapeOb, Ob.lt, D.ltAll, D.lt, ltAll_ints, Bool.and_self]
theorem kept_ch {S S1 : Sto} {i n : Nat} (h : Ch S S1 i n) (X : Sto) : Kept S (S1 ++ X) := fun j o hj e => by
  rw [List.getElem?_append_left (by rw [h.len]; exact hj)] at e
  by_cases q : j = i
  · subst q
    obtain ⟨ns, a, b, c, g, _⟩ := h.2
    rw [g] at e
    cases e
    exact .inr (lt_tape _ _ _ _ _)
  · rw [h.other q] at e
    exact .inl e
theorem cut_ch {S S1 : Sto} {i n : Nat} (h : Ch S S1 i n) (X : Sto) (d : D) (hd : d.lt S.length = true) : cutR S d (S1 ++ X) = .ok d S1 := by
  unfold cutR
  have hl := h.len
  by_cases q : (S1 ++ X).length = S.length
  · have : X = [] := by
      rw [List.length_append] at q
      exact List.length_eq_zero_iff.mp (by omega)
    subst this
    rw [if_pos q, List.append_nil]
  · rw [if_neg q, if_pos (kept_ch h X), handed_lt hd, ← hl]
    simp
theorem cut_chD {S S1 : Sto} {i n : Nat} (h : Ch S S1 i n) (X : Sto) (kvs : List (Key × D)) (hk : D.ltKV S.length kvs = true) : cutR S (.ref S.length) (S1 ++ .dct kvs :: X) = .ok (.dct kvs) S1 := by
  unfold cutR
  have hl := h.len
  rw [if_neg (by simp [hl]), if_pos (kept_ch h _)]
  have : handed S.length (S1 ++ .dct kvs :: X) (.ref S.length) = some (.dct kvs) := by
    unfold handed
    rw [if_neg (by simp [D.lt]), ← hl]
    simp [D.ref?, hl, hk]
  rw [this, ← hl]
  simp
theorem done_ch {S S1 : Sto} {i n : Nat} (h : Ch S S1 i n) (X : Sto) (d : D) (hd : d.lt S.length = true) : doneR false S (.ok (.rt d) (S1 ++ X)) = .ok d S1 := cut_ch h X d hd
def SpNm (F : Fn) : Prop := ∀ (S : Sto) (i n : Nat) (pool : List Str) (olds : Str), Tp S i n → n + 2 ≤ 100000 → 2 ≤ pool.length → pool.length ≤ 1000 → olds.length ≤ 1000 → olds.cps.toList.Nodup →
  ∃ (st sr : Nat) (S' : Sto), st < pool.length ∧ 1 ≤ sr ∧ sr < pool.length ∧ F [.ref i, .lst (pool.map D.str), .str olds] S = .ok (.ref S.length) (S' ++ [.dct (nmKV pool olds.cps.toList st sr olds.cps.toList.length)]) ∧ Ch S S' i (n + 2)
theorem law_names_ok {F1 : Fn} (h1 : SpDraw F1) : SpNm (dBody true 7 (B__law_names F1)) := by
  intro S i n pool olds ht hn hp hp2 ho nd
  have lp : (pool.map D.str).length = pool.length := List.length_map ..
  obtain ⟨st, S1, hst, e1, c1⟩ := h1 S i n (pool.map D.str).length ht (by omega) (by omega) (by omega)
  obtain ⟨sr, S2, hsr, e2, c2⟩ := h1 S1 i (n + 1) ((pool.map D.str).length - 1) c1.tp (by omega) (by omega) (by omega)
  have q1 : (((pool.map D.str).length : Nat) : Int) - 1 = (((pool.map D.str).length - 1 : Nat) : Int) := by omega
  have q2 : (1 : Int) + ((sr : Nat) : Int) = ((sr + 1 : Nat) : Int) := by omega
  obtain ⟨y6, lo⟩ := nm_loop (pool := pool) (olds := olds) (st := st) (sr := sr + 1) i S2 (by omega) hp2 ho nd olds.cps.toList.length 0 none (by omega)
  have k0 : nmKV pool olds.cps.toList st (sr + 1) 0 = [] := rfl
  rw [k0, ← List.range_eq_range', Nat.zero_add] at lo
  have c12 := c1.trans c2
  refine ⟨st, sr + 1, S2, by omega, by omega, by omega, ?_, c12⟩
  show doneR true S (B__law_names F1 [some (.ref i), some (.lst (pool.map D.str)), some (.str olds), none, none, none, none] S) = _
  have ol : olds.length = olds.cps.toList.length := rfl
  have rg : rangeD1 [.int (olds.length : Nat)] = some ((List.range olds.cps.toList.length).map fun k : Nat => D.int (k : Nat)) := range1 (by omega)
  have fin : ∀ (d : D) (S' : Sto), doneR true S (.ok (.rt d) S') = .ok d S' := fun _ _ => rfl
  simp only [nmBody] at lo
  simp_arith only [B__law_names, e1, q1, e2, q2, cap_ok (show olds.length ≤ 1000000 by omega), rg, lo, fin]
  rw [c12.len]
end SS
end

section
set_option Elab.async false
set_option linter.all false
set_option maxRecDepth 100000
set_option autoImplicit false
set_option maxHeartbeats 4000000
namespace SS
open PySem PySem.Spec PyProof.Rows L2 FL
local macro_rules
  | `(tactic| simp_arith only [$xs,*]) => `(tactic| simp (config := { implicitDefEqProofs := false }) only [tn_ok, oR_some, nx_ok, ev_var, ev_c, ev_bin, ev_kBin1, ev_kBin2, ev_un, ev_kUn, ev_asB, ev_kB, ev_asT, ev_kT, ev_tAnd2, ev_kAndT, ev_kAndF, ev_tOr2, ev_kOrT, ev_kOrF, ev_not, ev_kNot, ev_eAnd2, ev_kAndE, ev_kAndET, ev_kAndEF, ev_eOr2, ev_kOrE, ev_kOrET, ev_kOrEF, ev_eNot1, ev_kNotE, ev_kNotE2, ev_if, ev_kIfT, ev_kIfF, ev_aNil, ev_aCons, ev_kCons, ev_kCons2, ev_aStar, ev_kStar, ev_kStar2, ev_kStar3, ev_eTup, ev_kTup, ev_kTup2, ev_eLst, ev_kLst, ev_kLst2, ev_eNewL, ev_kNewL, ev_kNewL2, ev_newD, ev_callP, ev_kCallP, ev_call, ev_kCall, ev_kCall2, ev_oNone, ev_oSome, ev_kO, ev_kO2, ev_sl, ev_kSl, ev_kSl2, ev_kSl3, ev_meth, ev_kM, ev_kM2, ev_kM3, ev_meth0, ev_kM0, ev_chain, ev_kCh, ev_kCh2, ev_kCh3T, ev_kCh3F, ev_kCh4, ev_kLs, ev_kComp, ev_comp, ev_kRef, ev_compM, ev_kComp2, ev_comp2, ev_iSeq, ev_kIt, ev_iRange, ev_kRg, ev_enT, ev_enL, ev_iEnum, items_lst, items_tup, items_str, ev_true, ev_ret, ev_kRet, ev_expr, ev_kEx, ev_asg, ev_kAsg, ev_kNx, ev_seq, ev_kSeqN, ev_kSeqR, ev_kSeqB, ev_kSeqC, ev_ifS, ev_kIfST, ev_kIfSF, ev_for, ev_kFor, ev_next, ev_retN, ev_break, ev_cont, ev_par, ev_kPar, ev_par3, ev_kPar3, ev_gName, ev_gTup, ev_gsNil, ev_gsCons, ev_kGs, ev_gSub, ev_kSub, ev_kSub2, ev_kSub3, ev_kSub4, ev_mut, ev_kMu, ev_kMu2, ev_kMu3, ev_kMu4, ev_catM, ev_kCat, ev_kCat2, ev_catR, vw_non, vw_bl, vw_int, vw_str, vw_lst, vw_tup, vw_dct, vw_ref, vwO_lst, vwO_dct, tru_bl, tru_int, tru_lst, tru_tup, tru_non, add_int, add_lst, add_tup, add_str, sub_int, neg_int, gt_int, ge_int, lt_int, le_int, len_lst, len_tup, len_dct, len_str, int_int, tuple_lst, tuple_tup, list_lst, list_tup, sl_lst, sl_tup, is_non, isnt_non, non_bl, non_int, non_str, non_lst, non_tup, non_non, int_int?, ref_ref?, alt_tup, alt_lst, isi_int_non, isi_int_bl, isi_int_int, isi_int_str, isi_int_lst, isi_int_tup, isi_bool_non, isi_bool_bl, isi_bool_int, isi_bool_str, isi_bool_lst, isi_bool_tup, isi_str_non, isi_str_bl, isi_str_int, isi_str_str, isi_str_lst, isi_str_tup, isi_tuple_non, isi_tuple_bl, isi_tuple_int, isi_tuple_str, isi_tuple_lst, isi_tuple_tup, isi_list_non, isi_list_bl, isi_list_int, isi_list_str, isi_list_lst, isi_list_tup, isi_dict_non, isi_dict_bl, isi_dict_int, isi_dict_str, isi_dict_lst, isi_dict_tup, tyIn_lst2, tyD_lst, tyIn_tup2, tyD_tup, tyIn_str, tyD_str, tyIn_dct, tyD_dct, ev_cStep, ev_kC, ev_kC2T, ev_kC2F, ev_kSome, ev_cStep2, ev_kD, ev_kD2T, ev_kD2F, ev_kD3, ev_lStep, ev_kL, List.getElem?_cons_zero, List.getElem?_cons_succ, Option.join_some, Option.bind_some, Option.map_some, wipeE, List.set_cons_zero, List.set_cons_succ, List.length_cons, List.length_nil, List.map_cons, List.map_nil, gAll, gDef, List.cons_append, List.nil_append, if_true, if_false, Bool.not_true, Bool.not_false, Nat.zero_add, Nat.reduceAdd, Nat.reduceLeDiff, and_true, and_self, true_and, reduceIte, Bool.false_eq_true, $xs,*])
/-! ## the table of names -/
def codes : List Nat := [99, 100, 115, 116, 117, 118, 112, 113, 114]
def tabKV (nm : Nat → Str) : List (Key × D) := codes.map fun c => (.inr (ch1 c), .str (nm c))
structure TabOk (nm : Nat → Str) : Prop where
  ok : ∀ c ∈ codes, okN (nm c)
  cs : ([99, 100].map nm).Nodup
  ss : ([115, 116, 117, 118].map nm).Nodup
  ps : ([112, 113, 114].map nm).Nodup
instance (n : Str) : Decidable (okN n) := by unfold okN; infer_instance
theorem mergeD_new : ∀ (more kvs : List (Key × D)), (∀ q ∈ more, ∀ q' ∈ kvs, q'.1 ≠ q.1) → (more.map (·.1)).Nodup → mergeD kvs more = kvs ++ more
  | [], kvs, _, _ => by simp [mergeD]
  | m :: more, kvs, h, nd => by
    rw [List.map_cons, List.nodup_cons] at nd
    have e : mergeD kvs (m :: more) = mergeD (putD kvs m.1 m.2) more := rfl
    rw [e, putD_new (fun q hq => h m List.mem_cons_self q hq), mergeD_new more _ (fun q hq q' hq' => ?_) nd.2]
    · simp
    · rcases List.mem_append.mp hq' with h1 | h1
      · exact h q (List.mem_cons_of_mem _ hq) q' h1
      · rw [List.mem_singleton] at h1
        subst h1
        exact fun z => nd.1 (List.mem_map.mpr ⟨q, hq, z.symm⟩)
theorem mut_upd {S : Sto} {n m : Nat} {kvs more : List (Key × D)} (h : S[n]? = some (.dct kvs)) (h2 : S[m]? = some (.dct more)) (hl : kvs.length + more.length ≤ 1000000) (hm : m ≠ n) : mutAt "dict" updateD n [.ref m] S = .ok .non (S.set n (.dct (mergeD kvs more))) := by
  have v : vw S (.ref m) = .dct more := by simp only [vw, h2, vwO]
  have c : kvs.length + more.length ≤ 1000000 ∧ (D.ref m).ref? ≠ some n := ⟨hl, by simpa [D.ref?] using hm⟩
  have u : updateD S n (.dct kvs) [.ref m] = some (.non, .dct (mergeD kvs more)) := by
    simp only [updateD, v]
    rw [if_pos c]
  unfold mutAt
  rw [h]
  simp only [tyOb, if_true, u]
theorem few7 (a b c d e f g : D) : few [a, b, c, d, e, f, g] = some [a, b, c, d, e, f, g] := few_ok (by simp)
theorem nmKV_len (pool : List Str) (os : List Nat) (st sr m : Nat) : (nmKV pool os st sr m).length = m := by simp [nmKV]
theorem nmAt_mem {pool : List Str} {st sr k : Nat} (h : 0 < pool.length) : nmAt pool st sr k ∈ pool := by
  unfold nmAt
  have := Nat.mod_lt (st + k * sr) h
  rw [List.getD_eq_getElem?_getD, List.getElem?_eq_getElem this]
  exact List.getElem_mem this
/-- a pool of seven unlike names -/
def poolOk (pool : List Str) : Bool := decide (pool.length = 7) && pool.all (fun x => decide (okN x)) && (List.range 7).all fun st => (List.range 7).all fun sr => sr == 0 || decide (((List.range 4).map (nmAt pool st sr)).Nodup)
theorem poolOk_nd {pool : List Str} (h : poolOk pool = true) {st sr : Nat} (h1 : st < pool.length) (h2 : 1 ≤ sr) (h3 : sr < pool.length) : ((List.range 4).map (nmAt pool st sr)).Nodup := by
  unfold poolOk at h
  rw [Bool.and_eq_true, Bool.and_eq_true] at h
  have hl : pool.length = 7 := of_decide_eq_true h.1.1
  rw [hl] at h1 h3
  have a := List.all_eq_true.mp (List.all_eq_true.mp h.2 st (List.mem_range.mpr h1)) sr (List.mem_range.mpr h3)
  rw [Bool.or_eq_true] at a
  rcases a with a | a
  · have : sr = 0 := by simpa using a
    omega
  · exact of_decide_eq_true a
theorem poolOk_ok {pool : List Str} (h : poolOk pool = true) {st sr k : Nat} : okN (nmAt pool st sr k) := by
  unfold poolOk at h
  rw [Bool.and_eq_true, Bool.and_eq_true] at h
  have hl : pool.length = 7 := of_decide_eq_true h.1.1
  exact of_decide_eq_true (List.all_eq_true.mp h.1.2 _ (nmAt_mem (by omega)))
theorem poolOk_len {pool : List Str} (h : poolOk pool = true) : pool.length = 7 := by
  unfold poolOk at h
  rw [Bool.and_eq_true, Bool.and_eq_true] at h
  exact of_decide_eq_true h.1.1
def SpTable (F : Fn) : Prop := ∀ (S : Sto) (i n : Nat), Tp S i n → n + 6 ≤ 100000 → ∃ (nm : Nat → Str) (S' : Sto), TabOk nm ∧ F [.ref i] S = .ok (.dct (tabKV nm)) S' ∧ Ch S S' i (n + 6)
def nm3 (p1 p2 p3 : List Str) (a1 b1 a2 b2 a3 b3 : Nat) (c : Nat) : Str :=
  if c = 99 then nmAt p1 a1 b1 0 else if c = 100 then nmAt p1 a1 b1 1 else if c = 115 then nmAt p2 a2 b2 0 else if c = 116 then nmAt p2 a2 b2 1 else if c = 117 then nmAt p2 a2 b2 2 else if c = 118 then nmAt p2 a2 b2 3
  else if c = 112 then nmAt p3 a3 b3 0 else if c = 113 then nmAt p3 a3 b3 1 else nmAt p3 a3 b3 2
theorem nm3_ok {p1 p2 p3 : List Str} {a1 b1 a2 b2 a3 b3 : Nat} (h1 : poolOk p1 = true) (h2 : poolOk p2 = true) (h3 : poolOk p3 = true)
    (q1 : a1 < p1.length) (q2 : 1 ≤ b1) (q3 : b1 < p1.length) (r1 : a2 < p2.length) (r2 : 1 ≤ b2) (r3 : b2 < p2.length) (s1 : a3 < p3.length) (s2 : 1 ≤ b3) (s3 : b3 < p3.length) : TabOk (nm3 p1 p2 p3 a1 b1 a2 b2 a3 b3) := by
  have n1 := poolOk_nd h1 q1 q2 q3
  have n2 := poolOk_nd h2 r1 r2 r3
  have n3 := poolOk_nd h3 s1 s2 s3
  refine ⟨fun c _ => ?_, ?_, ?_, ?_⟩
  · unfold nm3
    repeat' split
    all_goals first | exact poolOk_ok h1 | exact poolOk_ok h2 | exact poolOk_ok h3
  · have : ([99, 100].map (nm3 p1 p2 p3 a1 b1 a2 b2 a3 b3)) = ((List.range 4).map (nmAt p1 a1 b1)).take 2 := rfl
    rw [this]
    exact n1.sublist (List.take_sublist _ _)
  · exact n2
  · have : ([112, 113, 114].map (nm3 p1 p2 p3 a1 b1 a2 b2 a3 b3)) = ((List.range 4).map (nmAt p3 a3 b3)).take 3 := rfl
    rw [this]
    exact n3.sublist (List.take_sublist _ _)
theorem tab_nm3 (p1 p2 p3 : List Str) (a1 b1 a2 b2 a3 b3 : Nat) : tabKV (nm3 p1 p2 p3 a1 b1 a2 b2 a3 b3) = nmKV p1 [99, 100] a1 b1 2 ++ nmKV p2 [115, 116, 117, 118] a2 b2 4 ++ nmKV p3 [112, 113, 114] a3 b3 3 := rfl
theorem nmKV_keys (pool : List Str) (os : List Nat) (st sr m : Nat) : (nmKV pool os st sr m).map (·.1) = (List.range m).map fun k => (.inr (ch1 (os.getD k 0)) : Key) := by
  unfold nmKV
  rw [List.map_map]
  rfl
theorem ltKV_tab (n : Nat) (nm : Nat → Str) : D.ltKV n (tabKV nm) = true := by
  simp only [tabKV, codes, List.map_cons, List.map_nil, D.ltKV, D.lt, Bool.and_self]
theorem vals_new {a b : List (Key × D)} {ka kb : List Key} (h1 : a.map (·.1) = ka) (h2 : b.map (·.1) = kb) (h3 : (kb.all fun x => ka.all fun y => decide (y ≠ x)) = true) : ∀ q ∈ b, ∀ q' ∈ a, q'.1 ≠ q.1 := fun q hq q' hq' z => by
  subst h1
  subst h2
  exact of_decide_eq_true (List.all_eq_true.mp (List.all_eq_true.mp h3 q.1 (List.mem_map.mpr ⟨q, hq, rfl⟩)) q'.1 (List.mem_map.mpr ⟨q', hq', rfl⟩)) z
def tableB (p1 p2 p3 : FEx) (F1 : Fn) : FSx := (sSeq (sAsg (eCall 3 0 gAll F1 (aCons (eVar 0) (aCons p1 (aCons (eC (.str "cd")) aNil))) aNil) (gName' 1)) (sSeq (sExpr (eMut ["dict"] updateD (eVar 1) (aCons (eCall 3 0 gAll F1 (aCons (eVar 0) (aCons p2 (aCons (eC (.str "stuv")) aNil))) aNil) aNil))) (sSeq (sExpr (eMut ["dict"] updateD (eVar 1) (aCons (eCall 3 0 gAll F1 (aCons (eVar 0) (aCons p3 (aCons (eC (.str "pqr")) aNil))) aNil) aNil))) (sRet (eVar 1)))))
theorem table_ok {F1 : Fn} (h1 : SpNm F1) {e1 e2 e3 : FEx} {p1 p2 p3 : List Str} (w1 : ∀ r S, e1 r S = .ok (.lst (p1.map D.str)) S) (w2 : ∀ r S, e2 r S = .ok (.lst (p2.map D.str)) S) (w3 : ∀ r S, e3 r S = .ok (.lst (p3.map D.str)) S)
    (o1 : poolOk p1 = true) (o2 : poolOk p2 = true) (o3 : poolOk p3 = true) : SpTable (dBody false 2 (tableB e1 e2 e3 F1)) := by
  intro S i n ht hn
  have l1 := poolOk_len o1
  have l2 := poolOk_len o2
  have l3 := poolOk_len o3
  obtain ⟨a1, b1, S1, q1, q2, q3, c1, k1⟩ := h1 S i n p1 "cd" ht (by omega) (by omega) (by omega) (by decide +kernel) (by decide +kernel)
  have t1 : (Str.ofString "cd").cps.toList = [99, 100] := by decide +kernel
  rw [t1] at c1
  obtain ⟨a2, b2, S2', r1, r2, r3, c2, k2'⟩ := h1 (S1 ++ [.dct (nmKV p1 [99, 100] a1 b1 2)]) i (n + 2) p2 "stuv" (k1.tp.app _) (by omega) (by omega) (by omega) (by decide +kernel) (by decide +kernel)
  have t2 : (Str.ofString "stuv").cps.toList = [115, 116, 117, 118] := by decide +kernel
  rw [t2] at c2
  obtain ⟨S2, rfl, k2⟩ := k2'.split k1.tp.lt
  obtain ⟨kv1, hkv1⟩ : ∃ kv1, kv1 = nmKV p1 [99, 100] a1 b1 2 := ⟨_, rfl⟩
  obtain ⟨kv2, hkv2⟩ : ∃ kv2, kv2 = nmKV p2 [115, 116, 117, 118] a2 b2 4 := ⟨_, rfl⟩
  have kk1 : kv1.map (·.1) = [.inr (ch1 99), .inr (ch1 100)] := by rw [hkv1]; rfl
  have kk2 : kv2.map (·.1) = [.inr (ch1 115), .inr (ch1 116), .inr (ch1 117), .inr (ch1 118)] := by rw [hkv2]; rfl
  have ll1 : kv1.length = 2 := by rw [hkv1]; exact nmKV_len ..
  have ll2 : kv2.length = 4 := by rw [hkv2]; exact nmKV_len ..
  have m12 : mergeD kv1 kv2 = kv1 ++ kv2 := mergeD_new _ _ (vals_new kk1 kk2 (by decide +kernel)) (by rw [kk2]; decide +kernel)
  obtain ⟨a3, b3, S3', s1, s2, s3, c3, k3'⟩ := h1 (S2 ++ [.dct (kv1 ++ kv2), .dct kv2]) i (n + 4) p3 "pqr" (k2.tp.app _) (by omega) (by omega) (by omega) (by decide +kernel) (by decide +kernel)
  have t3 : (Str.ofString "pqr").cps.toList = [112, 113, 114] := by decide +kernel
  rw [t3] at c3
  obtain ⟨S3, rfl, k3⟩ := k3'.split k2.tp.lt
  obtain ⟨kv3, hkv3⟩ : ∃ kv3, kv3 = nmKV p3 [112, 113, 114] a3 b3 3 := ⟨_, rfl⟩
  have kk3 : kv3.map (·.1) = [.inr (ch1 112), .inr (ch1 113), .inr (ch1 114)] := by rw [hkv3]; rfl
  have ll3 : kv3.length = 3 := by rw [hkv3]; exact nmKV_len ..
  have kk12 : (kv1 ++ kv2).map (·.1) = [.inr (ch1 99), .inr (ch1 100), .inr (ch1 115), .inr (ch1 116), .inr (ch1 117), .inr (ch1 118)] := by rw [List.map_append, kk1, kk2]; rfl
  have m123 : mergeD (kv1 ++ kv2) kv3 = kv1 ++ kv2 ++ kv3 := mergeD_new _ _ (vals_new kk12 kk3 (by decide +kernel)) (by rw [kk3]; decide +kernel)
  have L1 : S1.length = S.length := k1.len
  have L2 : S2.length = S.length := (k1.trans k2).len
  have L3 : S3.length = S.length := ((k1.trans k2).trans k3).len
  simp only [List.length_cons, List.length_nil, Nat.reduceAdd, ← hkv1, ← hkv2, ← hkv3] at c1 c2 c3
  have g1 : (S1 ++ [Ob.dct kv1])[S.length]? = some (Ob.dct kv1) := by rw [← L1]; exact app_get ..
  have u1 := mut_upd (S := S2 ++ [.dct kv1] ++ [.dct kv2]) (n := S.length) (m := (S1 ++ [Ob.dct kv1]).length) (kvs := kv1) (more := kv2) (by rw [← L2]; simp) (by rw [List.length_append, L1, ← L2]; simp) (by omega) (by rw [List.length_append, L1]; simp)
  have x1 : (S2 ++ [Ob.dct kv1] ++ [Ob.dct kv2]).set S.length (.dct (mergeD kv1 kv2)) = S2 ++ [.dct (kv1 ++ kv2), .dct kv2] := by rw [← L2, m12]; simp
  rw [x1] at u1
  have g2 : (S2 ++ [Ob.dct (kv1 ++ kv2), Ob.dct kv2])[S.length]? = some (Ob.dct (kv1 ++ kv2)) := by rw [← L2]; simp
  have u2 := mut_upd (S := S3 ++ [.dct (kv1 ++ kv2), .dct kv2] ++ [.dct kv3]) (n := S.length) (m := (S2 ++ [Ob.dct (kv1 ++ kv2), Ob.dct kv2]).length) (kvs := kv1 ++ kv2) (more := kv3) (by rw [← L3]; simp) (by rw [List.length_append, L2, ← L3]; simp) (by rw [List.length_append]; omega) (by rw [List.length_append, L2]; simp)
  have x2 : (S3 ++ [Ob.dct (kv1 ++ kv2), Ob.dct kv2] ++ [Ob.dct kv3]).set S.length (.dct (mergeD (kv1 ++ kv2) kv3)) = S3 ++ .dct (kv1 ++ kv2 ++ kv3) :: [.dct kv2, .dct kv3] := by rw [← L3, m123]; simp
  rw [x2] at u2
  refine ⟨nm3 p1 p2 p3 a1 b1 a2 b2 a3 b3, S3, nm3_ok o1 o2 o3 q1 q2 q3 r1 r2 r3 s1 s2 s3, ?_, (k1.trans k2).trans k3⟩
  have fin := cut_chD ((k1.trans k2).trans k3) [.dct kv2, .dct kv3] (tabKV (nm3 p1 p2 p3 a1 b1 a2 b2 a3 b3)) (ltKV_tab ..)
  rw [tab_nm3, ← hkv1, ← hkv2, ← hkv3] at fin ⊢
  show doneR false S (tableB e1 e2 e3 F1 [some (.ref i), none] S) = _
  have ev : tableB e1 e2 e3 F1 [some (.ref i), none] S = .ok (.rt (.ref S.length)) (S3 ++ .dct (kv1 ++ kv2 ++ kv3) :: [.dct kv2, .dct kv3]) := by
    simp_arith only [tableB, w1, w2, w3, c1, c2, c3, g1, g2, u1, u2, ob_dict]
  rw [ev]
  exact fin
def P1 : List Str := ["c", "a", "count", "x", "total", "cc", "zz"]
def P2 : List Str := ["s", "t", "a", "mine", "old", "x", "abcdefgh"]
def P3 : List Str := ["ann", "bob", "a", "x", "zoe", "writer", "b"]
theorem law_table_ok {F1 : Fn} (h1 : SpNm F1) : SpTable (dBody false 2 (B__law_table F1)) := by
  refine table_ok (p1 := P1) (p2 := P2) (p3 := P3) h1 (fun r S => ?_) (fun r S => ?_) (fun r S => ?_) (by decide +kernel) (by decide +kernel) (by decide +kernel)
  · simp_arith only [few7, P1]
  · simp_arith only [few7, P2]
  · simp_arith only [few7, P3]
end SS
end

section
set_option Elab.async false
set_option linter.all false
set_option maxRecDepth 100000
set_option autoImplicit false
set_option maxHeartbeats 4000000
namespace SS
open PySem PySem.Spec PyProof.Rows L2 FL
local macro_rules
  | `(tactic| simp_arith only [$xs,*]) => `(tactic| simp (config := { implicitDefEqProofs := false }) only [tn_ok, oR_some, nx_ok, ev_var, ev_c, ev_bin, ev_kBin1, ev_kBin2, ev_un, ev_kUn, ev_asB, ev_kB, ev_asT, ev_kT, ev_tAnd2, ev_kAndT, ev_kAndF, ev_tOr2, ev_kOrT, ev_kOrF, ev_not, ev_kNot, ev_eAnd2, ev_kAndE, ev_kAndET, ev_kAndEF, ev_eOr2, ev_kOrE, ev_kOrET, ev_kOrEF, ev_eNot1, ev_kNotE, ev_kNotE2, ev_if, ev_kIfT, ev_kIfF, ev_aNil, ev_aCons, ev_kCons, ev_kCons2, ev_aStar, ev_kStar, ev_kStar2, ev_kStar3, ev_eTup, ev_kTup, ev_kTup2, ev_eLst, ev_kLst, ev_kLst2, ev_eNewL, ev_kNewL, ev_kNewL2, ev_newD, ev_callP, ev_kCallP, ev_call, ev_kCall, ev_kCall2, ev_oNone, ev_oSome, ev_kO, ev_kO2, ev_sl, ev_kSl, ev_kSl2, ev_kSl3, ev_meth, ev_kM, ev_kM2, ev_kM3, ev_meth0, ev_kM0, ev_chain, ev_kCh, ev_kCh2, ev_kCh3T, ev_kCh3F, ev_kCh4, ev_kLs, ev_kComp, ev_comp, ev_kRef, ev_compM, ev_kComp2, ev_comp2, ev_iSeq, ev_kIt, ev_iRange, ev_kRg, ev_enT, ev_enL, ev_iEnum, items_lst, items_tup, items_str, ev_true, ev_ret, ev_kRet, ev_expr, ev_kEx, ev_asg, ev_kAsg, ev_kNx, ev_seq, ev_kSeqN, ev_kSeqR, ev_kSeqB, ev_kSeqC, ev_ifS, ev_kIfST, ev_kIfSF, ev_for, ev_kFor, ev_next, ev_retN, ev_break, ev_cont, ev_par, ev_kPar, ev_par3, ev_kPar3, ev_gName, ev_gTup, ev_gsNil, ev_gsCons, ev_kGs, ev_gSub, ev_kSub, ev_kSub2, ev_kSub3, ev_kSub4, ev_mut, ev_kMu, ev_kMu2, ev_kMu3, ev_kMu4, ev_catM, ev_kCat, ev_kCat2, ev_catR, vw_non, vw_bl, vw_int, vw_str, vw_lst, vw_tup, vw_dct, vw_ref, vwO_lst, vwO_dct, tru_bl, tru_int, tru_lst, tru_tup, tru_non, add_int, add_lst, add_tup, add_str, sub_int, neg_int, gt_int, ge_int, lt_int, le_int, len_lst, len_tup, len_dct, len_str, int_int, tuple_lst, tuple_tup, list_lst, list_tup, sl_lst, sl_tup, is_non, isnt_non, non_bl, non_int, non_str, non_lst, non_tup, non_non, int_int?, ref_ref?, alt_tup, alt_lst, isi_int_non, isi_int_bl, isi_int_int, isi_int_str, isi_int_lst, isi_int_tup, isi_bool_non, isi_bool_bl, isi_bool_int, isi_bool_str, isi_bool_lst, isi_bool_tup, isi_str_non, isi_str_bl, isi_str_int, isi_str_str, isi_str_lst, isi_str_tup, isi_tuple_non, isi_tuple_bl, isi_tuple_int, isi_tuple_str, isi_tuple_lst, isi_tuple_tup, isi_list_non, isi_list_bl, isi_list_int, isi_list_str, isi_list_lst, isi_list_tup, isi_dict_non, isi_dict_bl, isi_dict_int, isi_dict_str, isi_dict_lst, isi_dict_tup, tyIn_lst2, tyD_lst, tyIn_tup2, tyD_tup, tyIn_str, tyD_str, tyIn_dct, tyD_dct, ev_cStep, ev_kC, ev_kC2T, ev_kC2F, ev_kSome, ev_cStep2, ev_kD, ev_kD2T, ev_kD2F, ev_kD3, ev_lStep, ev_kL, List.getElem?_cons_zero, List.getElem?_cons_succ, Option.join_some, Option.bind_some, Option.map_some, wipeE, List.set_cons_zero, List.set_cons_succ, List.length_cons, List.length_nil, List.map_cons, List.map_nil, gAll, gDef, List.cons_append, List.nil_append, if_true, if_false, Bool.not_true, Bool.not_false, Nat.zero_add, Nat.reduceAdd, Nat.reduceLeDiff, and_true, and_self, true_and, reduceIte, Bool.false_eq_true, $xs,*])
/-! ## words of a page -/
def conv (kv : List (Key × D)) (w : Str) : D := if Txt.isdigit w = true then .int ((PySem.intText? w).getD 0) else (lookK kv (.inr w)).getD (.str w)
def numOk (w : Str) : Bool := decide (w.length ≤ 640) && (PySem.intText? w).isSome
def convOk (w : Str) : Bool := !Txt.isdigit w || numOk w
theorem int_num {w : Str} (h : numOk w = true) : FL.intD [.str w] = some (.int ((PySem.intText? w).getD 0)) := by
  unfold numOk at h
  rw [Bool.and_eq_true] at h
  have hl : w.length ≤ 640 := of_decide_eq_true h.1
  obtain ⟨i, hi⟩ := Option.isSome_iff_exists.mp h.2
  simp only [FL.intD, one, alt, on1, D.int?, D.bl?, D.str?, hl, if_true, hi, Option.map_some, Option.getD_some]
theorem split_ok {a b : Str} (h1 : b.length ≠ 0) (h2 : a.length ≤ 1000000) : splitD (.str a) [.str b] = some (.lst ((Txt.split a b).map .str)) := by
  have c : (b.length != 0 && decide (a.length ≤ 1000000)) = true := by simp [h1, h2]
  simp only [splitD, one, on2, D.str?, guard', c, if_true]
theorem isdig (w : Str) : isdigitD (.str w) [] = some (.bl (Txt.isdigit w)) := by simp [isdigitD, on1, D.str?, guard']
theorem get2 (kv : List (Key × D)) (w : Str) : get2D (.dct kv) [.str w, .str w] = some ((lookK kv (.inr w)).getD (.str w)) := by simp [get2D, two, on2, D.dct?, D.key?, D.firm, guard']
theorem look_ix (kv : List (Key × D)) (w : Str) : ixD (.dct kv) (.str w) = lookK kv (.inr w) := by
  simp only [ixD, alt, on2, D.lst?, D.tup?, D.int?, D.str?, D.dct?, D.key?]
theorem look_tab {nm : Nat → Str} {c : Nat} (h : c ∈ codes) : lookK (tabKV nm) (.inr (ch1 c)) = some (.str (nm c)) := by
  have : ∀ (cs : List Nat), c ∈ cs → lookK (cs.map fun c => ((.inr (ch1 c), .str (nm c)) : Key × D)) (.inr (ch1 c)) = some (.str (nm c)) := by
    intro cs
    induction cs with
    | nil => intro h; cases h
    | cons x xs ih =>
      intro h
      unfold lookK at *
      rw [List.map_cons, List.find?_cons]
      by_cases e : x = c
      · subst e
        simp
      · have : decide ((.inr (ch1 x) : Key) = .inr (ch1 c)) = false := decide_eq_false fun z => e (ch1_inj (Sum.inr.inj z))
        simp only [this]
        rcases List.mem_cons.mp h with h | h
        · exact absurd h.symm e
        · exact ih h
  exact this codes h
theorem look_none {nm : Nat → Str} {w : Str} (h : ∀ c ∈ codes, ch1 c ≠ w) : lookK (tabKV nm) (.inr w) = none := by
  unfold lookK tabKV
  rw [Option.map_eq_none_iff, List.find?_eq_none]
  intro q hq
  obtain ⟨c, hc, rfl⟩ := List.mem_map.mp hq
  simp only [decide_eq_true_eq]
  exact fun z => h c hc (Sum.inr.inj z)
theorem dig_codes : ∀ c ∈ codes, Txt.isdigit (ch1 c) = false := by decide +kernel
theorem conv_code {nm : Nat → Str} {c : Nat} (h : c ∈ codes) : conv (tabKV nm) (ch1 c) = .str (nm c) := by
  unfold conv
  rw [dig_codes c h, look_tab h]
  rfl
/-- a word that stands for itself -/
def plainW (w : Str) : Bool := !Txt.isdigit w && codes.all fun c => decide (ch1 c ≠ w)
theorem conv_plain {nm : Nat → Str} {w : Str} (h : plainW w = true) : conv (tabKV nm) w = .str w := by
  unfold plainW at h
  rw [Bool.and_eq_true] at h
  unfold conv
  rw [if_neg (by simpa using h.1), look_none (fun c hc => of_decide_eq_true (List.all_eq_true.mp h.2 c hc))]
  rfl
theorem nb_conv {nm : Nat → Str} (w : Str) : nb (conv (tabKV nm) w) = true := by
  unfold conv
  split
  · rfl
  · cases h : lookK (tabKV nm) (.inr w) with
    | none => rfl
    | some d =>
      unfold lookK at h
      obtain ⟨q, hq, rfl⟩ := Option.map_eq_some_iff.mp h
      obtain ⟨c, _, rfl⟩ := List.mem_map.mp (List.mem_of_find?_eq_some hq)
      rfl
def arB : FSx := (sExpr (eMut ["list"] appendD (eVar 3) (aCons (eIf (asT (eMeth0 ["str"] isdigitD (eVar 4))) (eCallP FL.intD (aCons (eVar 4) aNil)) (eMeth ["dict"] get2D (eVar 1) (aCons (eVar 4) (aCons (eVar 4) aNil)))) aNil)))
theorem ar_loop {S : Sto} {x0 x2 : Option D} {kv : List (Key × D)} : ∀ (ws : List Str) (acc : List D) (x4 : Option D), (∀ w ∈ ws, convOk w = true) → acc.length + ws.length ≤ 100000 → ∃ y4,
    loopD (gName' 4) arB (ws.map D.str) [x0, some (.dct kv), x2, some (.ref S.length), x4] (S ++ [.lst acc]) = .ok (.nx [x0, some (.dct kv), x2, some (.ref S.length), y4]) (S ++ [.lst (acc ++ ws.map (conv kv))])
  | [], acc, x4, _, _ => ⟨x4, by simp [loopD, FL.ret]⟩
  | w :: ws, acc, x4, h, hl => by
    rw [List.length_cons] at hl
    obtain ⟨y4, ih⟩ := ar_loop (x0 := x0) (x2 := x2) (kv := kv) (S := S) ws (acc ++ [conv kv w]) (some (.str w)) (fun v hv => h v (List.mem_cons_of_mem _ hv)) (by rw [List.length_append, List.length_singleton]; omega)
    refine ⟨y4, ?_⟩
    have ap := mut_app (S := S ++ [.lst acc]) (n := S.length) (xs := acc) (d := conv kv w) (app_get ..) (by omega)
    rw [app_set] at ap
    have st : lStep (gName' 4) arB (.str w) [x0, some (.dct kv), x2, some (.ref S.length), x4] (S ++ [.lst acc]) = .ok (.nx [x0, some (.dct kv), x2, some (.ref S.length), some (.str w)]) (S ++ [.lst (acc ++ [conv kv w])]) := by
      by_cases hd : Txt.isdigit w = true
      · have hn : numOk w = true := by
          have := h w List.mem_cons_self
          unfold convOk at this
          rw [hd] at this
          simpa using this
        have cv : conv kv w = .int ((PySem.intText? w).getD 0) := by unfold conv; rw [if_pos hd]
        rw [cv] at ap ⊢
        simp_arith only [arB, app_get, ob_list, isdig, hd, int_num hn, ap]
      · have hd' : Txt.isdigit w = false := by simpa using hd
        have cv : conv kv w = (lookK kv (.inr w)).getD (.str w) := by unfold conv; rw [if_neg hd]
        rw [cv] at ap ⊢
        simp_arith only [arB, app_get, ob_list, isdig, hd', get2, ap]
    rw [List.map_cons, loopD_step st, ih]
    simp
theorem cut_mid (x : D) (xs : List D) (y : D) : cutL (x :: (xs ++ [y])) (some 1) (some (-1)) = xs := by
  unfold cutL
  have l : (x :: (xs ++ [y])).length = xs.length + 2 := by simp
  have a : HT.sIx (x :: (xs ++ [y])).length 0 (some 1) = 1 := by
    rw [l, show (some 1 : Option Int) = some ((1 : Nat) : Int) from rfl, HT.sIx_nat]
    omega
  have b : HT.sIx (x :: (xs ++ [y])).length (x :: (xs ++ [y])).length (some (-1)) = xs.length + 1 := by
    rw [l]
    simp only [HT.sIx]
    rw [if_pos (by omega)]
    omega
  rw [a, b]
  simp
theorem atI_end {α : Type} (x : α) (xs : List α) (y : α) : atI (x :: (xs ++ [y])) (-1) = some y := atI_last (by rw [← List.cons_append]; exact List.getLast?_concat ..)
/-- what a page writes of one arrow -/
def SpArw (F : Fn) : Prop := ∀ (page w0 wl : Str) (mid : List Str) (nm : Nat → Str) (S : Sto), page.length ≤ 100000 → Txt.split page " " = w0 :: (mid ++ [wl]) → mid.length ≤ 1000 → numOk w0 = true → numOk wl = true → (∀ w ∈ mid, convOk w = true) →
  F [.str page, .dct (tabKV nm)] S = .ok (.tup [.int ((PySem.intText? w0).getD 0), .tup (mid.map (conv (tabKV nm))), .int ((PySem.intText? wl).getD 0)]) S
theorem law_arrow_ok : SpArw (dBody false 5 B__law_arrow) := by
  intro page w0 wl mid nm S hp hs hm h0 hl hw
  show doneR false S (B__law_arrow [some (.str page), some (.dct (tabKV nm)), none, none, none] S) = _
  have sp := split_ok (a := page) (b := " ") (by decide +kernel) (by omega)
  rw [hs, List.map_cons, List.map_append, List.map_cons, List.map_nil] at sp
  obtain ⟨y4, lo⟩ := ar_loop (S := S) (x0 := some (.str page)) (x2 := some (.lst (.str w0 :: (mid.map D.str ++ [.str wl])))) (kv := tabKV nm) mid [] none hw (by rw [List.length_nil]; omega)
  rw [List.nil_append] at lo
  simp only [arB] at lo
  have fin := cut_app S [.lst (mid.map (conv (tabKV nm)))] (.tup [.int ((PySem.intText? w0).getD 0), .tup (mid.map (conv (tabKV nm))), .int ((PySem.intText? wl).getD 0)]) (nb_lt _ _ (by
    simp only [nb, nbs, Bool.true_and, Bool.and_true]
    exact (nbs_iff _).mpr fun d hd => by
      obtain ⟨w, _, rfl⟩ := List.mem_map.mp hd
      exact nb_conv w))
  have ev : B__law_arrow [some (.str page), some (.dct (tabKV nm)), none, none, none] S = .ok (.rt (.tup [.int ((PySem.intText? w0).getD 0), .tup (mid.map (conv (tabKV nm))), .int ((PySem.intText? wl).getD 0)])) (S ++ [.lst (mid.map (conv (tabKV nm)))]) := by
    simp_arith only [B__law_arrow, sp, few0, few3, cut_mid, lo, ixD_lst, atI_0, atI_end, int_num h0, int_num hl, app_get]
  rw [ev]
  exact fin
/-! ## deeds of a page -/
def lt1 (x : Str) : Option Nat := match x.cps.toList with
  | [c] => some c
  | _ => none
theorem lt1_eq {x : Str} {c : Nat} (h : lt1 x = some c) : x = ch1 c := by
  unfold lt1 at h
  split at h
  · rename_i c' hc
    cases h
    unfold ch1
    rcases x with ⟨⟨l⟩⟩
    simp only at hc
    rw [hc]
  · cases h
def isIn (cs : List Nat) (x : Str) : Bool := match lt1 x with
  | some c => cs.contains c && codes.contains c
  | none => false
theorem isIn_eq {cs : List Nat} {x : Str} (h : isIn cs x = true) : ∃ c, c ∈ cs ∧ c ∈ codes ∧ x = ch1 c := by
  unfold isIn at h
  split at h
  · rename_i c hc
    rw [Bool.and_eq_true] at h
    exact ⟨c, by simpa using h.1, by simpa using h.2, lt1_eq hc⟩
  · cases h
def smallN (y : Str) : Bool := Txt.isdigit y && numOk y && decide (0 ≤ (PySem.intText? y).getD 0 ∧ (PySem.intText? y).getD 0 ≤ 100)
def wd : List Str := ["do", "x"]
def w2 : List Str := ["keep", "same", "other"]
def w3 : List Str := ["copy", "agree", "differ", "newer", "elder"]
def wr : List Str := ["rise", "spare"]
def deedW (cs ss : List Nat) : List Str → Bool
  | [w, x] => (w2.contains w && isIn ss x) || (decide (w = "do") && decide (x = "x"))
  | [w, x, y] => (wr.contains w && isIn cs x && smallN y) || (w3.contains w && isIn ss x && isIn ss y)
  | _ => false
def okS (cs ss : List Nat) (nm : Nat → Str) : Deed → Prop
  | .rise c n => c ∈ cs.map nm ∧ 0 ≤ n ∧ n ≤ 100
  | .spare c n => c ∈ cs.map nm ∧ 0 ≤ n ∧ n ≤ 100
  | .keep s => s ∈ ss.map nm
  | .same s => s ∈ ss.map nm
  | .other s => s ∈ ss.map nm
  | .copy s t => s ∈ ss.map nm ∧ t ∈ ss.map nm
  | .agree s t => s ∈ ss.map nm ∧ t ∈ ss.map nm
  | .differ s t => s ∈ ss.map nm ∧ t ∈ ss.map nm
  | .newer s t => s ∈ ss.map nm ∧ t ∈ ss.map nm
  | .elder s t => s ∈ ss.map nm ∧ t ∈ ss.map nm
  | .doo x => okN x
theorem plain_words : (w2 ++ w3 ++ wr ++ wd).all plainW = true := by decide +kernel
theorem pl {w : Str} (h : w ∈ w2 ++ w3 ++ wr ++ wd) (nm : Nat → Str) : conv (tabKV nm) w = .str w := conv_plain (List.all_eq_true.mp plain_words w h)
theorem conv_small {nm : Nat → Str} {y : Str} (h : smallN y = true) : ∃ n : Int, conv (tabKV nm) y = .int n ∧ 0 ≤ n ∧ n ≤ 100 := by
  unfold smallN at h
  rw [Bool.and_eq_true, Bool.and_eq_true] at h
  refine ⟨(PySem.intText? y).getD 0, ?_, of_decide_eq_true h.2⟩
  unfold conv
  rw [if_pos h.1.1]
theorem deed_of {cs ss : List Nat} {nm : Nat → Str} : ∀ {ws : List Str}, deedW cs ss ws = true → ∃ d : Deed, D.tup (ws.map (conv (tabKV nm))) = d.d ∧ okS cs ss nm d
  | [w, x], h => by
    simp only [deedW, Bool.or_eq_true, Bool.and_eq_true, decide_eq_true_eq] at h
    rcases h with ⟨hw, hx⟩ | ⟨rfl, rfl⟩
    · obtain ⟨c, h1, h2, rfl⟩ := isIn_eq hx
      have hw' : w ∈ w2 := by simpa using hw
      have e1 := pl (w := w) (List.mem_append_left _ (List.mem_append_left _ (List.mem_append_left _ hw'))) nm
      have e2 := conv_code (nm := nm) h2
      have m : nm c ∈ ss.map nm := List.mem_map.mpr ⟨c, h1, rfl⟩
      simp only [List.map_cons, List.map_nil, e1, e2]
      simp only [w2, List.mem_cons, List.not_mem_nil, or_false] at hw'
      rcases hw' with rfl | rfl | rfl
      · exact ⟨.keep (nm c), rfl, m⟩
      · exact ⟨.same (nm c), rfl, m⟩
      · exact ⟨.other (nm c), rfl, m⟩
    · have e1 := pl (w := "do") (by decide +kernel) nm
      have e2 := pl (w := "x") (by decide +kernel) nm
      simp only [List.map_cons, List.map_nil, e1, e2]
      exact ⟨.doo "x", rfl, by show okN (Str.ofString "x"); decide +kernel⟩
  | [w, x, y], h => by
    simp only [deedW, Bool.or_eq_true, Bool.and_eq_true] at h
    rcases h with ⟨⟨hw, hx⟩, hy⟩ | ⟨⟨hw, hx⟩, hy⟩
    · obtain ⟨c, h1, h2, rfl⟩ := isIn_eq hx
      have hw' : w ∈ wr := by simpa using hw
      have e1 := pl (w := w) (List.mem_append_left _ (List.mem_append_right _ hw')) nm
      have e2 := conv_code (nm := nm) h2
      obtain ⟨n, e3, n1, n2⟩ := conv_small (nm := nm) hy
      have m : nm c ∈ cs.map nm := List.mem_map.mpr ⟨c, h1, rfl⟩
      simp only [List.map_cons, List.map_nil, e1, e2, e3]
      simp only [wr, List.mem_cons, List.not_mem_nil, or_false] at hw'
      rcases hw' with rfl | rfl
      · exact ⟨.rise (nm c) n, rfl, m, n1, n2⟩
      · exact ⟨.spare (nm c) n, rfl, m, n1, n2⟩
    · obtain ⟨c, h1, h2, rfl⟩ := isIn_eq hx
      obtain ⟨c', h1', h2', rfl⟩ := isIn_eq hy
      have hw' : w ∈ w3 := by simpa using hw
      have e1 := pl (w := w) (List.mem_append_left _ (List.mem_append_left _ (List.mem_append_right _ hw'))) nm
      have e2 := conv_code (nm := nm) h2
      have e3 := conv_code (nm := nm) h2'
      have m : nm c ∈ ss.map nm := List.mem_map.mpr ⟨c, h1, rfl⟩
      have m' : nm c' ∈ ss.map nm := List.mem_map.mpr ⟨c', h1', rfl⟩
      simp only [List.map_cons, List.map_nil, e1, e2, e3]
      simp only [w3, List.mem_cons, List.not_mem_nil, or_false] at hw'
      rcases hw' with rfl | rfl | rfl | rfl | rfl
      · exact ⟨.copy (nm c) (nm c'), rfl, m, m'⟩
      · exact ⟨.agree (nm c) (nm c'), rfl, m, m'⟩
      · exact ⟨.differ (nm c) (nm c'), rfl, m, m'⟩
      · exact ⟨.newer (nm c) (nm c'), rfl, m, m'⟩
      · exact ⟨.elder (nm c) (nm c'), rfl, m, m'⟩
  | [], h => by cases h
  | [_], h => by cases h
  | _ :: _ :: _ :: _ :: _, h => by cases h
/-- an arrow of a page -/
def arrowW (cs ss : List Nat) (page : Str) : Bool := match Txt.split page " " with
  | [] => false
  | w0 :: r => match r.getLast? with
    | none => false
    | some wl => decide (page.length ≤ 100000) && decide (r.length ≤ 100) && smallN w0 && smallN wl && r.dropLast.all convOk && deedW cs ss r.dropLast
theorem arrow_of {cs ss : List Nat} {nm : Nat → Str} {F : Fn} (hF : SpArw F) {page : Str} (h : arrowW cs ss page = true) : ∃ a : Arw, (∀ S, F [.str page, .dct (tabKV nm)] S = .ok a.d S) ∧ okS cs ss nm a.w ∧ 0 ≤ a.p ∧ a.p ≤ 100 ∧ 0 ≤ a.q ∧ a.q ≤ 100 := by
  unfold arrowW at h
  split at h
  · cases h
  · rename_i w0 r hr
    split at h
    · cases h
    · rename_i wl hwl
      simp only [Bool.and_eq_true, decide_eq_true_eq] at h
      obtain ⟨⟨⟨⟨⟨h1, h2⟩, h3⟩, h4⟩, h5⟩, h6⟩ := h
      have hre : r = r.dropLast ++ [wl] := by
        have hne : r ≠ [] := fun z => by rw [z] at hwl; cases hwl
        rw [List.getLast?_eq_some_getLast hne] at hwl
        have := List.dropLast_concat_getLast hne
        rw [Option.some.inj hwl] at this
        exact this.symm
      rw [hre] at hr
      obtain ⟨d, hd, ok⟩ := deed_of (nm := nm) h6
      unfold smallN at h3 h4
      simp only [Bool.and_eq_true, decide_eq_true_eq] at h3 h4
      refine ⟨⟨(PySem.intText? w0).getD 0, d, (PySem.intText? wl).getD 0⟩, fun S => ?_, ok, h3.2.1, h3.2.2, h4.2.1, h4.2.2⟩
      rw [hF page w0 wl r.dropLast nm S h1 hr (by simp; omega) h3.1.2 h4.1.2 (fun w hw => List.all_eq_true.mp h5 w hw), hd]
      rfl
end SS
end

section
set_option Elab.async false
set_option linter.all false
set_option maxRecDepth 100000
set_option autoImplicit false
set_option maxHeartbeats 4000000
namespace SS
open PySem PySem.Spec PyProof.Rows L2 FL
local macro_rules
  | `(tactic| simp_arith only [$xs,*]) => `(tactic| simp (config := { implicitDefEqProofs := false }) only [tn_ok, oR_some, nx_ok, ev_var, ev_c, ev_bin, ev_kBin1, ev_kBin2, ev_un, ev_kUn, ev_asB, ev_kB, ev_asT, ev_kT, ev_tAnd2, ev_kAndT, ev_kAndF, ev_tOr2, ev_kOrT, ev_kOrF, ev_not, ev_kNot, ev_eAnd2, ev_kAndE, ev_kAndET, ev_kAndEF, ev_eOr2, ev_kOrE, ev_kOrET, ev_kOrEF, ev_eNot1, ev_kNotE, ev_kNotE2, ev_if, ev_kIfT, ev_kIfF, ev_aNil, ev_aCons, ev_kCons, ev_kCons2, ev_aStar, ev_kStar, ev_kStar2, ev_kStar3, ev_eTup, ev_kTup, ev_kTup2, ev_eLst, ev_kLst, ev_kLst2, ev_eNewL, ev_kNewL, ev_kNewL2, ev_newD, ev_callP, ev_kCallP, ev_call, ev_kCall, ev_kCall2, ev_oNone, ev_oSome, ev_kO, ev_kO2, ev_sl, ev_kSl, ev_kSl2, ev_kSl3, ev_meth, ev_kM, ev_kM2, ev_kM3, ev_meth0, ev_kM0, ev_chain, ev_kCh, ev_kCh2, ev_kCh3T, ev_kCh3F, ev_kCh4, ev_kLs, ev_kComp, ev_comp, ev_kRef, ev_compM, ev_kComp2, ev_comp2, ev_iSeq, ev_kIt, ev_iRange, ev_kRg, ev_enT, ev_enL, ev_iEnum, items_lst, items_tup, items_str, ev_true, ev_ret, ev_kRet, ev_expr, ev_kEx, ev_asg, ev_kAsg, ev_kNx, ev_seq, ev_kSeqN, ev_kSeqR, ev_kSeqB, ev_kSeqC, ev_ifS, ev_kIfST, ev_kIfSF, ev_for, ev_kFor, ev_next, ev_retN, ev_break, ev_cont, ev_par, ev_kPar, ev_par3, ev_kPar3, ev_gName, ev_gTup, ev_gsNil, ev_gsCons, ev_kGs, ev_gSub, ev_kSub, ev_kSub2, ev_kSub3, ev_kSub4, ev_mut, ev_kMu, ev_kMu2, ev_kMu3, ev_kMu4, ev_catM, ev_kCat, ev_kCat2, ev_catR, vw_non, vw_bl, vw_int, vw_str, vw_lst, vw_tup, vw_dct, vw_ref, vwO_lst, vwO_dct, tru_bl, tru_int, tru_lst, tru_tup, tru_non, add_int, add_lst, add_tup, add_str, sub_int, neg_int, gt_int, ge_int, lt_int, le_int, len_lst, len_tup, len_dct, len_str, int_int, tuple_lst, tuple_tup, list_lst, list_tup, sl_lst, sl_tup, is_non, isnt_non, non_bl, non_int, non_str, non_lst, non_tup, non_non, int_int?, ref_ref?, alt_tup, alt_lst, isi_int_non, isi_int_bl, isi_int_int, isi_int_str, isi_int_lst, isi_int_tup, isi_bool_non, isi_bool_bl, isi_bool_int, isi_bool_str, isi_bool_lst, isi_bool_tup, isi_str_non, isi_str_bl, isi_str_int, isi_str_str, isi_str_lst, isi_str_tup, isi_tuple_non, isi_tuple_bl, isi_tuple_int, isi_tuple_str, isi_tuple_lst, isi_tuple_tup, isi_list_non, isi_list_bl, isi_list_int, isi_list_str, isi_list_lst, isi_list_tup, isi_dict_non, isi_dict_bl, isi_dict_int, isi_dict_str, isi_dict_lst, isi_dict_tup, tyIn_lst2, tyD_lst, tyIn_tup2, tyD_tup, tyIn_str, tyD_str, tyIn_dct, tyD_dct, ev_cStep, ev_kC, ev_kC2T, ev_kC2F, ev_kSome, ev_cStep2, ev_kD, ev_kD2T, ev_kD2F, ev_kD3, ev_lStep, ev_kL, List.getElem?_cons_zero, List.getElem?_cons_succ, Option.join_some, Option.bind_some, Option.map_some, wipeE, List.set_cons_zero, List.set_cons_succ, List.length_cons, List.length_nil, List.map_cons, List.map_nil, gAll, gDef, List.cons_append, List.nil_append, if_true, if_false, Bool.not_true, Bool.not_false, Nat.zero_add, Nat.reduceAdd, Nat.reduceLeDiff, and_true, and_self, true_and, reduceIte, Bool.false_eq_true, $xs,*])
/-! ## sorting -/
theorem strExt {x y : Str} (h : x.cps.toList = y.cps.toList) : x = y := by
  rcases x with ⟨⟨a⟩⟩
  rcases y with ⟨⟨b⟩⟩
  simp only at h
  rw [h]
theorem sorted_map {α : Type} (f : α → D) (xs : List α) (hl : xs.length ≤ 1000000) (h : (xs.map f).all D.isStr = true ∨ ((xs.map f).all D.isHT = true ∧ ((xs.map f).map D.skey).Nodup)) : ∃ ys : List α, ys.Perm xs ∧ sortedD [.lst (xs.map f)] = some (.lst (ys.map f)) := by
  refine ⟨xs.mergeSort (fun a b => leK (f a) (f b)), List.mergeSort_perm .., ?_⟩
  have c : (xs.map f).length ≤ 1000000 ∧ ((xs.map f).all D.isStr = true ∨ ((xs.map f).all D.isHT = true ∧ ((xs.map f).map D.skey).Nodup)) := ⟨by simpa using hl, h⟩
  simp only [sortedD, one, on1, D.lst?]
  rw [if_pos c]
  unfold sortK
  rw [List.map_mergeSort (s := leK) (fun a _ b _ => rfl)]
theorem sorted_strs (xs : List Str) (hl : xs.length ≤ 1000000) : ∃ ys : List Str, ys.Perm xs ∧ sortedD [.lst (xs.map D.str)] = some (.lst (ys.map D.str)) := sorted_map D.str xs hl (.inl (List.all_eq_true.mpr fun d hd => by
  obtain ⟨x, _, rfl⟩ := List.mem_map.mp hd
  rfl))
theorem sorted_ht {α : Type} (f : α → D) (k : α → Str) (r : α → List D) (hf : ∀ a, f a = .tup (.str (k a) :: r a)) (xs : List α) (nd : (xs.map k).Nodup) (hl : xs.length ≤ 1000000) : ∃ ys : List α, ys.Perm xs ∧ sortedD [.lst (xs.map f)] = some (.lst (ys.map f)) :=
  sorted_map f xs hl (.inr ⟨List.all_eq_true.mpr fun d hd => by
    obtain ⟨x, _, rfl⟩ := List.mem_map.mp hd
    rw [hf x]
    rfl, by
    have e : (xs.map f).map D.skey = (xs.map k).map (fun x => x.cps.toList) := by
      rw [List.map_map, List.map_map]
      refine List.map_congr_left fun a _ => ?_
      show (f a).skey = _
      rw [hf a]
      rfl
    rw [e]
    exact List.Pairwise.map _ (fun a b (h : a ≠ b) z => h (strExt z)) nd⟩)
theorem okD_mono {p q : Pg} (hc : ∀ c ∈ p.cs, c ∈ q.cs) (hs : ∀ s, p.hasS s → q.hasS s) {w : Deed} (h : p.okD w) : q.okD w := by
  cases w <;> simp only [Pg.okD] at h ⊢
  · exact ⟨hc _ h.1, h.2⟩
  · exact ⟨hc _ h.1, h.2⟩
  · exact hs _ h
  · exact hs _ h
  · exact hs _ h
  · exact ⟨hs _ h.1, hs _ h.2⟩
  · exact ⟨hs _ h.1, hs _ h.2⟩
  · exact ⟨hs _ h.1, hs _ h.2⟩
  · exact ⟨hs _ h.1, hs _ h.2⟩
  · exact ⟨hs _ h.1, hs _ h.2⟩
  · exact h
theorem Pg.Ok.perm {p q : Pg} (h : p.Ok) (hc : q.cs.Perm p.cs) (hs : q.ss.Perm p.ss) (hp : q.ps.Perm p.ps) : q.Ok where
  ndP := (hp.map _).nodup_iff.mpr h.ndP
  ndS := (hs.map _).nodup_iff.mpr h.ndS
  ndC := hc.nodup_iff.mpr h.ndC
  own := fun s m => hc.mem_iff.mpr (h.own s (hs.mem_iff.mp m))
  deeds := fun t m a ma => by
    obtain ⟨h1, h2⟩ := h.deeds t (hp.mem_iff.mp m) a ma
    exact ⟨okD_mono (fun c m => hc.mem_iff.mpr m) (fun s m => (hs.map _).mem_iff.mpr m) h1, h2⟩
  names := fun t m => h.names t (hp.mem_iff.mp m)
  namesS := fun t m => h.namesS t (hs.mem_iff.mp m)
  namesC := fun t m => h.namesC t (hc.mem_iff.mp m)
  lenP' := by rw [hp.length_eq]; exact h.lenP'
  lenS' := by rw [hs.length_eq]; exact h.lenS'
  lenC' := by rw [hc.length_eq]; exact h.lenC'
  lenA' := fun t m => h.lenA' t (hp.mem_iff.mp m)
/-! ## a page -/
def noE (xs : List Str) : List Str := xs.filter fun x => !(x == "")
def cd1 (x : Str) : Nat := x.cps.toList.getD 0 0
def cd2 (x : Str) : Nat × Nat := (x.cps.toList.getD 0 0, x.cps.toList.getD 2 0)
def slotIn (cs : List Nat) (x : Str) : Bool := decide (x.length ≤ 1000) && match x.cps.toList with
  | a :: _ :: b :: _ => [115, 116, 117, 118].contains a && cs.contains b && [99, 100].contains b
  | _ => false
def partOk (cs ss : List Nat) (part : Str) : Bool := decide (part.length ≤ 100000) && decide ((Txt.split part ",").length ≤ 10) && (noE (Txt.split part ",")).all (arrowW cs ss)
def pageOk (page : Str) : Bool := decide (page.length ≤ 1000) && match Txt.split page ";" with
  | a :: b :: ps => decide (a.length ≤ 1000) && decide (b.length ≤ 1000) && decide ((Txt.split a " ").length ≤ 2) && decide ((Txt.split b " ").length ≤ 4) && decide (ps.length ≤ 3)
    && (noE (Txt.split a " ")).all (isIn [99, 100]) && decide ((noE (Txt.split a " ")).map cd1).Nodup
    && (noE (Txt.split b " ")).all (slotIn ((noE (Txt.split a " ")).map cd1)) && decide ((noE (Txt.split b " ")).map fun x => (cd2 x).1).Nodup
    && ps.all (partOk ((noE (Txt.split a " ")).map cd1) ((noE (Txt.split b " ")).map fun x => (cd2 x).1))
  | _ => false
theorem filt_noE {α : Type} (g : Str → α) (xs : List Str) : xs.filterMap (fun x : Str => if (x == "") = true then none else some (g x)) = (noE xs).map g := by
  induction xs with
  | nil => rfl
  | cons x xs ih =>
    unfold noE at *
    cases h : (x == (Str.ofString "")) with
    | true => rw [List.filterMap_cons_none (by simp [h]), List.filter_cons_of_neg (by simp [h])]; exact ih
    | false => rw [List.filterMap_cons_some (b := g x) (by simp [h]), List.filter_cons_of_pos (by simp [h])]; rw [ih]; rfl
theorem mem_noE {x : Str} {xs : List Str} (h : x ∈ xs) (hx : (x == "") = false) : x ∈ noE xs := List.mem_filter.mpr ⟨h, by simp [hx]⟩
section
variable {nm : Nat → Str} {F : Fn}
theorem cs_step {r0 : FL.Env} {S : Sto} {x : Str} (hr : ∃ x0 x2 x3 x4 x5 x6 x7 x8 x9 x10, r0 = [x0, some (.dct (tabKV nm)), x2, x3, x4, x5, x6, x7, x8, x9, x10]) (h : (x == "") = false → isIn [99, 100] x = true) :
    cStep (gName' 9) (asB (eBin neD (eVar 9) (eC (.str "")))) (eBin ixD (eVar 1) (eVar 9)) r0 (.str x) S = .ok (if (x == "") = true then none else some (.str (nm (cd1 x)))) S := by
  obtain ⟨x0, x2, x3, x4, x5, x6, x7, x8, x9, x10, rfl⟩ := hr
  cases hx : (x == (Str.ofString "")) with
  | true => simp_arith only [neD_str, hx]
  | false =>
    obtain ⟨c, _, hc, rfl⟩ := isIn_eq (h hx)
    have : cd1 (ch1 c) = c := rfl
    simp_arith only [neD_str, hx, look_ix, look_tab hc, this]
theorem ss_step {cs : List Nat} {r0 : FL.Env} {S : Sto} {x : Str} (hr : ∃ x0 x2 x3 x4 x5 x6 x7 x8 x9 x10, r0 = [x0, some (.dct (tabKV nm)), x2, x3, x4, x5, x6, x7, x8, x9, x10]) (h : (x == "") = false → slotIn cs x = true) :
    cStep (gName' 8) (asB (eBin neD (eVar 8) (eC (.str "")))) (eTup (aCons (eBin ixD (eVar 1) (eBin ixD (eVar 8) (eC (.int 0)))) (aCons (eBin ixD (eVar 1) (eBin ixD (eVar 8) (eC (.int 2)))) aNil))) r0 (.str x) S = .ok (if (x == "") = true then none else some (slotD (nm (cd2 x).1, nm (cd2 x).2))) S := by
  obtain ⟨x0, x2, x3, x4, x5, x6, x7, x8, x9, x10, rfl⟩ := hr
  cases hx : (x == (Str.ofString "")) with
  | true => simp_arith only [neD_str, hx]
  | false =>
    have hs := h hx
    unfold slotIn at hs
    rw [Bool.and_eq_true] at hs
    have hl : x.length ≤ 1000 := of_decide_eq_true hs.1
    have hm := hs.2
    split at hm
    · rename_i a m b r he
      simp only [Bool.and_eq_true] at hm
      have ha : a ∈ codes := by
        have : a ∈ [115, 116, 117, 118] := by simpa using hm.1.1
        revert this
        unfold codes
        simp only [List.mem_cons, List.not_mem_nil, or_false]
        omega
      have hb : b ∈ codes := by
        have : b ∈ [99, 100] := by simpa using hm.2
        revert this
        unfold codes
        simp only [List.mem_cons, List.not_mem_nil, or_false]
        omega
      have i0 : ixD (.str x) (.int 0) = some (.str (ch1 a)) := ix_str (k := 0) hl (by rw [he]; rfl)
      have i2 : ixD (.str x) (.int 2) = some (.str (ch1 b)) := ix_str (k := 2) hl (by rw [he]; rfl)
      have e2 : cd2 x = (a, b) := by unfold cd2; rw [he]; rfl
      rw [e2]
      simp_arith only [neD_str, hx, i0, i2, look_ix, look_tab ha, look_tab hb, few2, slotD]
    · cases hm
theorem as_comp {cs ss : List Nat} (hF : SpArw F) {r0 : FL.Env} {S : Sto} (hr : ∃ x0 x2 x3 x4 x5 x6 x7 x8 x9 x10, r0 = [x0, some (.dct (tabKV nm)), x2, x3, x4, x5, x6, x7, x8, x9, x10]) :
    ∀ (xs : List Str) (acc : List D), (∀ x ∈ noE xs, arrowW cs ss x = true) → acc.length + xs.length ≤ 100000 → ∃ as : List Arw, (∀ a ∈ as, okS cs ss nm a.w ∧ 0 ≤ a.p ∧ a.p ≤ 100 ∧ 0 ≤ a.q ∧ a.q ≤ 100) ∧ as.length ≤ xs.length ∧
      compD (gName' 10) (asB (eBin neD (eVar 10) (eC (.str "")))) (eCall 2 0 gAll F (aCons (eVar 10) (aCons (eVar 1) aNil)) aNil) r0 (xs.map D.str) acc S = .ok (acc ++ as.map Arw.d) S
  | [], acc, _, _ => ⟨[], by simp, by simp, by simp [compD, FL.ret]⟩
  | x :: xs, acc, h, hl => by
    rw [List.length_cons] at hl
    have hx' : ∀ y ∈ noE xs, arrowW cs ss y = true := fun y hy => h y (by
      unfold noE at hy ⊢
      rw [List.mem_filter] at hy ⊢
      exact ⟨List.mem_cons_of_mem _ hy.1, hy.2⟩)
    cases hx : (x == (Str.ofString "")) with
    | true =>
      obtain ⟨as, h1, h2, h3⟩ := as_comp hF hr (S := S) xs acc hx' (by omega)
      refine ⟨as, h1, by rw [List.length_cons]; omega, ?_⟩
      have st : cStep (gName' 10) (asB (eBin neD (eVar 10) (eC (.str "")))) (eCall 2 0 gAll F (aCons (eVar 10) (aCons (eVar 1) aNil)) aNil) r0 (.str x) S = .ok none S := by
        obtain ⟨x0, x2, x3, x4, x5, x6, x7, x8, x9, x10, rfl⟩ := hr
        simp_arith only [neD_str, hx]
      rw [List.map_cons, compD_cons]
      simp only [bnd, st]
      exact h3
    | false =>
      obtain ⟨a, ha, ga⟩ := arrow_of (nm := nm) hF (h x (mem_noE List.mem_cons_self hx))
      obtain ⟨as, h1, h2, h3⟩ := as_comp hF hr (S := S) xs (acc ++ [a.d]) hx' (by rw [List.length_append, List.length_singleton]; omega)
      refine ⟨a :: as, ?_, by rw [List.length_cons, List.length_cons]; omega, ?_⟩
      · intro b hb
        rcases List.mem_cons.mp hb with rfl | hb
        · exact ga
        · exact h1 b hb
      have st : cStep (gName' 10) (asB (eBin neD (eVar 10) (eC (.str "")))) (eCall 2 0 gAll F (aCons (eVar 10) (aCons (eVar 1) aNil)) aNil) r0 (.str x) S = .ok (some a.d) S := by
        obtain ⟨x0, x2, x3, x4, x5, x6, x7, x8, x9, x10, rfl⟩ := hr
        simp_arith only [neD_str, hx, ha S]
      rw [List.map_cons, compD_cons]
      simp only [bnd, st]
      rw [if_pos (by omega), h3, List.map_cons]
      simp
def wrB (F : Fn) : FSx := (sSeq (sAsg (eComp [10] (iSeqD (eMeth ["str"] splitD (eBin ixD (eVar 2) (eVar 6)) (aCons (eC (.str ",")) aNil))) (gName' 10) (asB (eBin neD (eVar 10) (eC (.str "")))) (eCall 2 0 gAll F (aCons (eVar 10) (aCons (eVar 1) aNil)) aNil)) (gName' 7)) (sExpr (eMut ["list"] appendD (eVar 5) (aCons (eTup (aCons (eBin ixD (eVar 1) (eBin ixD (eC (.str "pqr")) (eBin subD (eVar 6) (eC (.int 2))))) (aCons (eCallP tupleD (aCons (eVar 7) aNil)) aNil))) aNil))))
def goodPs (cs ss : List Nat) (nm : Nat → Str) (ps : List (Str × List Arw)) : Prop := ∀ q ∈ ps, q.2.length ≤ 10 ∧ ∀ a ∈ q.2, okS cs ss nm a.w ∧ 0 ≤ a.p ∧ a.p ≤ 100 ∧ 0 ≤ a.q ∧ a.q ≤ 100
theorem wr_loop {cs ss : List Nat} (hF : SpArw F) {S : Sto} {x0 x3 x4 x8 x9 x10 : Option D} {parts : List Str} : ∀ (qs pre : List Str) (m : Nat) (acc : List (Str × List Arw)) (x6 x7 : Option D),
    parts = pre ++ qs → pre.length = m + 2 → m + qs.length ≤ 3 → acc.length ≤ m → (∀ part ∈ qs, partOk cs ss part = true) → ∃ (new : List (Str × List Arw)) (y6 y7 : Option D), goodPs cs ss nm new ∧ new.map (·.1) = (([112, 113, 114].drop m).take qs.length).map nm ∧
      loopD (gName' 6) (wrB F) ((List.range' m qs.length).map fun k : Nat => D.int (2 + (k : Nat))) [x0, some (.dct (tabKV nm)), some (.lst (parts.map D.str)), x3, x4, some (.ref S.length), x6, x7, x8, x9, x10] (S ++ [.lst (acc.map partyD)])
        = .ok (.nx [x0, some (.dct (tabKV nm)), some (.lst (parts.map D.str)), x3, x4, some (.ref S.length), y6, y7, x8, x9, x10]) (S ++ [.lst ((acc ++ new).map partyD)])
  | [], pre, m, acc, x6, x7, _, _, _, _, _ => ⟨[], x6, x7, (by intro _ h; cases h), by simp, by simp [loopD, FL.ret]⟩
  | q :: qs, pre, m, acc, x6, x7, hp, hpl, hm, ha, h => by
    rw [List.length_cons] at hm
    have hq := h q List.mem_cons_self
    unfold partOk at hq
    simp only [Bool.and_eq_true, decide_eq_true_eq] at hq
    obtain ⟨⟨q1, q2⟩, q3⟩ := hq
    obtain ⟨as, a1, a2, a3⟩ := as_comp (nm := nm) (cs := cs) (ss := ss) hF (r0 := [x0, some (.dct (tabKV nm)), some (.lst (parts.map D.str)), x3, x4, some (.ref S.length), some (.int (2 + (m : Nat))), x7, x8, x9, none]) (S := S ++ [.lst (acc.map partyD)]) ⟨_, _, _, _, _, _, _, _, _, _, rfl⟩ (Txt.split q ",") [] (fun x hx => List.all_eq_true.mp q3 x hx) (by rw [List.length_nil]; omega)
    rw [List.nil_append] at a3
    have hmc : [112, 113, 114][m]? = some ([112, 113, 114].getD m 0) := by
      rw [List.getD_eq_getElem?_getD, List.getElem?_eq_getElem (by simp; omega)]
      rfl
    obtain ⟨c, hc⟩ : ∃ c, c = [112, 113, 114].getD m 0 := ⟨_, rfl⟩
    rw [← hc] at hmc
    have hcc : c ∈ codes := by
      have := List.mem_of_getElem? hmc
      revert this
      unfold codes
      simp only [List.mem_cons, List.not_mem_nil, or_false]
      omega
    obtain ⟨new, y6, y7, n1, n2, n3⟩ := wr_loop (cs := cs) (ss := ss) hF (S := S) (x0 := x0) (x3 := x3) (x4 := x4) (x8 := x8) (x9 := x9) (x10 := x10) (parts := parts) qs (pre ++ [q]) (m + 1) (acc ++ [(nm c, as)]) (some (.int (2 + (m : Nat)))) (some (.lst (as.map Arw.d))) (by rw [hp]; simp) (by simp; omega) (by omega) (by simp; omega) (fun x hx => h x (List.mem_cons_of_mem _ hx))
    refine ⟨(nm c, as) :: new, y6, y7, ?_, ?_, ?_⟩
    · intro t ht
      rcases List.mem_cons.mp ht with rfl | ht
      · exact ⟨by simp only; omega, a1⟩
      · exact n1 t ht
    · rw [List.map_cons, n2, List.drop_eq_getElem_cons (i := m) (by simp; omega), List.length_cons, List.take_succ_cons, List.map_cons]
      rw [List.getElem?_eq_getElem (by simp; omega)] at hmc
      rw [Option.some.inj hmc]
    · have gp : (parts.map D.str)[m + 2]? = some (.str q) := by
        rw [hp, List.map_append, List.getElem?_append_right (by simp; omega)]
        simp [hpl]
      have ix : ixD (.lst (parts.map D.str)) (.int (2 + (m : Nat))) = some (.str q) := by
        rw [ixD_lst, show (2 : Int) + ((m : Nat) : Int) = ((m + 2 : Nat) : Int) by omega, atI_nat gp]
      have ixp : ixD (.str "pqr") (.int (2 + (m : Nat) - 2)) = some (.str (ch1 c)) := by
        rw [show (2 : Int) + ((m : Nat) : Int) - 2 = ((m : Nat) : Int) by omega]
        refine ix_str (by decide +kernel) ?_
        rw [show (Str.ofString "pqr").cps.toList = [112, 113, 114] by decide +kernel]
        exact hmc
      have sp := split_ok (a := q) (b := ",") (by decide +kernel) (by omega)
      have ap := mut_app (S := S ++ [.lst (acc.map partyD)]) (n := S.length) (xs := acc.map partyD) (d := .tup [.str (nm c), .tup (as.map Arw.d)]) (app_get ..) (by rw [List.length_map]; omega)
      rw [app_set] at ap
      have pd : acc.map partyD ++ [.tup [.str (nm c), .tup (as.map Arw.d)]] = (acc ++ [(nm c, as)]).map partyD := by simp [partyD]
      rw [pd] at ap
      have st : lStep (gName' 6) (wrB F) (.int (2 + (m : Nat))) [x0, some (.dct (tabKV nm)), some (.lst (parts.map D.str)), x3, x4, some (.ref S.length), x6, x7, x8, x9, x10] (S ++ [.lst (acc.map partyD)])
          = .ok (.nx [x0, some (.dct (tabKV nm)), some (.lst (parts.map D.str)), x3, x4, some (.ref S.length), some (.int (2 + (m : Nat))), some (.lst (as.map Arw.d)), x8, x9, x10]) (S ++ [.lst ((acc ++ [(nm c, as)]).map partyD)]) := by
        simp_arith only [wrB, ix, sp, a3, ixp, look_ix, look_tab hcc, few2, app_get, ob_list, ap]
      rw [List.length_cons, List.range'_succ, List.map_cons, loopD_step st, n3]
      simp
end
def SpWritten (F : Fn) : Prop := ∀ (page : Str) (nm : Nat → Str) (S : Sto), pageOk page = true → TabOk nm → ∃ p : Pg, p.Ok ∧ F [.str page, .dct (tabKV nm)] S = .ok p.d S
theorem nodup_take {nm : Nat → Str} {l : List Nat} (h : (l.map nm).Nodup) (m : Nat) : ((l.take m).map nm).Nodup := by
  rw [List.map_take]
  exact h.sublist (List.take_sublist _ _)
theorem nodup_sub {nm : Nat → Str} {l k : List Nat} (h : (l.map nm).Nodup) (hk : k.Nodup) (hs : ∀ x ∈ k, x ∈ l) : (k.map nm).Nodup := by
  rw [List.nodup_iff_pairwise_ne] at *
  refine List.pairwise_map.mpr (List.Pairwise.imp_of_mem (R := (· ≠ ·)) ?_ hk)
  intro a b ha hb hab z
  have inj : ∀ (l : List Nat), (l.map nm).Pairwise (· ≠ ·) → ∀ a ∈ l, ∀ b ∈ l, nm a = nm b → a = b := by
    intro l
    induction l with
    | nil => intro _ a ha; cases ha
    | cons x xs ih =>
      intro hp a ha b hb e
      rw [List.map_cons, List.pairwise_cons] at hp
      rcases List.mem_cons.mp ha with a1 | a1 <;> rcases List.mem_cons.mp hb with b1 | b1
      · rw [a1, b1]
      · rw [a1] at e
        exact absurd e (hp.1 _ (List.mem_map.mpr ⟨b, b1, rfl⟩))
      · rw [b1] at e
        exact absurd e.symm (hp.1 _ (List.mem_map.mpr ⟨a, a1, rfl⟩))
      · exact ih hp.2 a a1 b b1 e
  exact hab (inj l h a (hs a ha) b (hs b hb) z)
end SS
end

section
set_option Elab.async false
set_option linter.all false
set_option maxRecDepth 100000
set_option autoImplicit false
set_option maxHeartbeats 4000000
namespace SS
open PySem PySem.Spec PyProof.Rows L2 FL
local macro_rules
  | `(tactic| simp_arith only [$xs,*]) => `(tactic| simp (config := { implicitDefEqProofs := false }) only [tn_ok, oR_some, nx_ok, ev_var, ev_c, ev_bin, ev_kBin1, ev_kBin2, ev_un, ev_kUn, ev_asB, ev_kB, ev_asT, ev_kT, ev_tAnd2, ev_kAndT, ev_kAndF, ev_tOr2, ev_kOrT, ev_kOrF, ev_not, ev_kNot, ev_eAnd2, ev_kAndE, ev_kAndET, ev_kAndEF, ev_eOr2, ev_kOrE, ev_kOrET, ev_kOrEF, ev_eNot1, ev_kNotE, ev_kNotE2, ev_if, ev_kIfT, ev_kIfF, ev_aNil, ev_aCons, ev_kCons, ev_kCons2, ev_aStar, ev_kStar, ev_kStar2, ev_kStar3, ev_eTup, ev_kTup, ev_kTup2, ev_eLst, ev_kLst, ev_kLst2, ev_eNewL, ev_kNewL, ev_kNewL2, ev_newD, ev_callP, ev_kCallP, ev_call, ev_kCall, ev_kCall2, ev_oNone, ev_oSome, ev_kO, ev_kO2, ev_sl, ev_kSl, ev_kSl2, ev_kSl3, ev_meth, ev_kM, ev_kM2, ev_kM3, ev_meth0, ev_kM0, ev_chain, ev_kCh, ev_kCh2, ev_kCh3T, ev_kCh3F, ev_kCh4, ev_kLs, ev_kComp, ev_comp, ev_kRef, ev_compM, ev_kComp2, ev_comp2, ev_iSeq, ev_kIt, ev_iRange, ev_kRg, ev_enT, ev_enL, ev_iEnum, items_lst, items_tup, items_str, ev_true, ev_ret, ev_kRet, ev_expr, ev_kEx, ev_asg, ev_kAsg, ev_kNx, ev_seq, ev_kSeqN, ev_kSeqR, ev_kSeqB, ev_kSeqC, ev_ifS, ev_kIfST, ev_kIfSF, ev_for, ev_kFor, ev_next, ev_retN, ev_break, ev_cont, ev_par, ev_kPar, ev_par3, ev_kPar3, ev_gName, ev_gTup, ev_gsNil, ev_gsCons, ev_kGs, ev_gSub, ev_kSub, ev_kSub2, ev_kSub3, ev_kSub4, ev_mut, ev_kMu, ev_kMu2, ev_kMu3, ev_kMu4, ev_catM, ev_kCat, ev_kCat2, ev_catR, vw_non, vw_bl, vw_int, vw_str, vw_lst, vw_tup, vw_dct, vw_ref, vwO_lst, vwO_dct, tru_bl, tru_int, tru_lst, tru_tup, tru_non, add_int, add_lst, add_tup, add_str, sub_int, neg_int, gt_int, ge_int, lt_int, le_int, len_lst, len_tup, len_dct, len_str, int_int, tuple_lst, tuple_tup, list_lst, list_tup, sl_lst, sl_tup, is_non, isnt_non, non_bl, non_int, non_str, non_lst, non_tup, non_non, int_int?, ref_ref?, alt_tup, alt_lst, isi_int_non, isi_int_bl, isi_int_int, isi_int_str, isi_int_lst, isi_int_tup, isi_bool_non, isi_bool_bl, isi_bool_int, isi_bool_str, isi_bool_lst, isi_bool_tup, isi_str_non, isi_str_bl, isi_str_int, isi_str_str, isi_str_lst, isi_str_tup, isi_tuple_non, isi_tuple_bl, isi_tuple_int, isi_tuple_str, isi_tuple_lst, isi_tuple_tup, isi_list_non, isi_list_bl, isi_list_int, isi_list_str, isi_list_lst, isi_list_tup, isi_dict_non, isi_dict_bl, isi_dict_int, isi_dict_str, isi_dict_lst, isi_dict_tup, tyIn_lst2, tyD_lst, tyIn_tup2, tyD_tup, tyIn_str, tyD_str, tyIn_dct, tyD_dct, ev_cStep, ev_kC, ev_kC2T, ev_kC2F, ev_kSome, ev_cStep2, ev_kD, ev_kD2T, ev_kD2F, ev_kD3, ev_lStep, ev_kL, List.getElem?_cons_zero, List.getElem?_cons_succ, Option.join_some, Option.bind_some, Option.map_some, wipeE, List.set_cons_zero, List.set_cons_succ, List.length_cons, List.length_nil, List.map_cons, List.map_nil, gAll, gDef, List.cons_append, List.nil_append, if_true, if_false, Bool.not_true, Bool.not_false, Nat.zero_add, Nat.reduceAdd, Nat.reduceLeDiff, and_true, and_self, true_and, reduceIte, Bool.false_eq_true, $xs,*])
theorem okD_of {cs ss : List Nat} {nm : Nat → Str} {p : Pg} (hc : p.cs = cs.map nm) (hs : p.ss.map (·.1) = ss.map nm) {w : Deed} (h : okS cs ss nm w) : p.okD w := by
  have k : ∀ s, s ∈ ss.map nm → p.hasS s := fun s m => by unfold Pg.hasS; rw [hs]; exact m
  cases w <;> simp only [okS] at h <;> simp only [Pg.okD, hc]
  · exact h
  · exact h
  · exact k _ h
  · exact k _ h
  · exact k _ h
  · exact ⟨k _ h.1, k _ h.2⟩
  · exact ⟨k _ h.1, k _ h.2⟩
  · exact ⟨k _ h.1, k _ h.2⟩
  · exact ⟨k _ h.1, k _ h.2⟩
  · exact ⟨k _ h.1, k _ h.2⟩
  · exact h
theorem isIn_cd {cs : List Nat} {x : Str} (h : isIn cs x = true) : cd1 x ∈ cs ∧ cd1 x ∈ codes := by
  obtain ⟨c, h1, h2, rfl⟩ := isIn_eq h
  exact ⟨h1, h2⟩
theorem slotIn_cd {cs : List Nat} {x : Str} (h : slotIn cs x = true) : (cd2 x).1 ∈ [115, 116, 117, 118] ∧ (cd2 x).2 ∈ cs := by
  unfold slotIn at h
  rw [Bool.and_eq_true] at h
  have hm := h.2
  split at hm
  · rename_i a m b r he
    simp only [Bool.and_eq_true] at hm
    have e2 : cd2 x = (a, b) := by unfold cd2; rw [he]; rfl
    rw [e2]
    exact ⟨by simpa using hm.1.1, by simpa using hm.1.2⟩
  · cases hm
theorem page_pg {cl sl : List Str} {ps : List (Str × List Arw)} {nm : Nat → Str} (tb : TabOk nm) (h1 : cl.all (isIn [99, 100]) = true) (h2 : (cl.map cd1).Nodup) (h3 : sl.all (slotIn (cl.map cd1)) = true) (h4 : (sl.map fun x => (cd2 x).1).Nodup)
    (h5 : goodPs (cl.map cd1) (sl.map fun x => (cd2 x).1) nm ps) (h6 : ∃ m, ps.map (·.1) = ([112, 113, 114].take m).map nm) (l1 : cl.length ≤ 2) (l2 : sl.length ≤ 4) :
    Pg.Ok ⟨cl.map fun x => nm (cd1 x), sl.map fun x => (nm (cd2 x).1, nm (cd2 x).2), ps⟩ := by
  obtain ⟨m, h6⟩ := h6
  have ec : (cl.map fun x => nm (cd1 x)) = (cl.map cd1).map nm := by rw [List.map_map]; rfl
  have es : (sl.map fun x => (nm (cd2 x).1, nm (cd2 x).2)).map (·.1) = (sl.map fun x => (cd2 x).1).map nm := by rw [List.map_map, List.map_map]; rfl
  have subC : ∀ x ∈ cl.map cd1, x ∈ [99, 100] := fun x hx => by
    obtain ⟨y, hy, rfl⟩ := List.mem_map.mp hx
    exact (isIn_cd (List.all_eq_true.mp h1 y hy)).1
  have subS : ∀ x ∈ (sl.map fun x => (cd2 x).1), x ∈ [115, 116, 117, 118] := fun x hx => by
    obtain ⟨y, hy, rfl⟩ := List.mem_map.mp hx
    exact (slotIn_cd (List.all_eq_true.mp h3 y hy)).1
  have lp : ps.length ≤ 3 := by
    have := congrArg List.length h6
    simp only [List.length_map, List.length_take, List.length_cons, List.length_nil] at this
    omega
  refine ⟨?_, ?_, ?_, ?_, ?_, ?_, ?_, ?_, ?_, ?_, ?_, ?_⟩
  · simp only; rw [h6]; exact nodup_take tb.ps m
  · simp only; rw [es]; exact nodup_sub tb.ss h4 subS
  · simp only; rw [ec]; exact nodup_sub tb.cs h2 subC
  · intro s hs
    obtain ⟨x, hx, rfl⟩ := List.mem_map.mp hs
    have := (slotIn_cd (List.all_eq_true.mp h3 x hx)).2
    simp only; rw [ec]
    exact List.mem_map.mpr ⟨_, this, rfl⟩
  · intro q hq a ha
    obtain ⟨_, g⟩ := h5 q hq
    obtain ⟨g1, g2⟩ := g a ha
    exact ⟨okD_of (cs := cl.map cd1) (ss := sl.map fun x => (cd2 x).1) (nm := nm) ec es g1, g2⟩
  · intro q hq
    have : q.1 ∈ ps.map (·.1) := List.mem_map.mpr ⟨q, hq, rfl⟩
    rw [h6] at this
    obtain ⟨c, hc, e⟩ := List.mem_map.mp this
    rw [← e]
    refine tb.ok c ?_
    have := List.mem_of_mem_take hc
    revert this
    unfold codes
    simp only [List.mem_cons, List.not_mem_nil, or_false]
    omega
  · intro q hq
    obtain ⟨x, hx, rfl⟩ := List.mem_map.mp hq
    refine tb.ok _ ?_
    have := (slotIn_cd (List.all_eq_true.mp h3 x hx)).1
    revert this
    unfold codes
    simp only [List.mem_cons, List.not_mem_nil, or_false]
    omega
  · intro q hq
    obtain ⟨x, hx, rfl⟩ := List.mem_map.mp hq
    exact tb.ok _ (isIn_cd (List.all_eq_true.mp h1 x hx)).2
  · simp only; omega
  · simp only [List.length_map]; exact l2
  · simp only [List.length_map]; exact l1
  · intro q hq
    exact (h5 q hq).1
theorem range2 {n : Nat} (h : n ≤ 1000) (h2 : 2 ≤ n) : rangeD2 [.int 2, .int (n : Nat)] = some ((List.range' 0 (n - 2)).map fun k : Nat => D.int (2 + (k : Nat))) := by
  have c : (smallR 2 && smallR (n : Int)) = true := by
    unfold smallR
    rw [decide_eq_true (by omega), decide_eq_true (by omega)]
    rfl
  simp only [rangeD2, two, on2, D.int?, guard', c, if_true]
  rw [← List.range_eq_range', show ((n : Int) - 2).toNat = n - 2 by omega]
theorem noE_len (xs : List Str) : (noE xs).length ≤ xs.length := List.length_filter_le ..
theorem law_written_ok {F1 : Fn} (h1 : SpArw F1) : SpWritten (dBody false 11 (B__law_written F1)) := by
  intro page nm S hp tb
  unfold pageOk at hp
  rw [Bool.and_eq_true] at hp
  have hpl : page.length ≤ 1000 := of_decide_eq_true hp.1
  have hm := hp.2
  split at hm
  · rename_i a b ps hs
    simp only [Bool.and_eq_true, decide_eq_true_eq] at hm
    obtain ⟨⟨⟨⟨⟨⟨⟨⟨⟨la, lb⟩, ca⟩, cb⟩, lp⟩, g1⟩, g2⟩, g3⟩, g4⟩, g5⟩ := hm
    obtain ⟨cl, hcl⟩ : ∃ cl, cl = noE (Txt.split a " ") := ⟨_, rfl⟩
    obtain ⟨sl, hsl⟩ : ∃ sl, sl = noE (Txt.split b " ") := ⟨_, rfl⟩
    rw [← hcl] at g1 g2 g3 g5
    rw [← hsl] at g3 g4 g5
    obtain ⟨parts, hparts⟩ : ∃ parts, parts = a :: b :: ps := ⟨_, rfl⟩
    have sp0 := split_ok (a := page) (b := ";") (by decide +kernel) (by omega)
    rw [hs, ← hparts] at sp0
    have spa := split_ok (a := a) (b := " ") (by decide +kernel) (by omega)
    have spb := split_ok (a := b) (b := " ") (by decide +kernel) (by omega)
    have i0 : ixD (.lst (parts.map D.str)) (.int 0) = some (.str a) := by rw [ixD_lst, hparts]; exact atI_0 ..
    have i1 : ixD (.lst (parts.map D.str)) (.int 1) = some (.str b) := by rw [ixD_lst, hparts]; exact atI_1 ..
    have hlen : (parts.map D.str).length = ps.length + 2 := by rw [hparts]; simp
    have cS := compD_pure (b := gName' 8) (t := asB (eBin neD (eVar 8) (eC (.str "")))) (e := eTup (aCons (eBin ixD (eVar 1) (eBin ixD (eVar 8) (eC (.int 0)))) (aCons (eBin ixD (eVar 1) (eBin ixD (eVar 8) (eC (.int 2)))) aNil))) D.str (fun x : Str => if (x == "") = true then none else some (slotD (nm (cd2 x).1, nm (cd2 x).2)))
      (r0 := [some (.str page), some (.dct (tabKV nm)), some (.lst (parts.map D.str)), none, none, none, none, none, none, none, none]) (S := S) (Txt.split b " ") []
      (fun x hx => ss_step (cs := cl.map cd1) ⟨_, _, _, _, _, _, _, _, _, _, rfl⟩ fun he => List.all_eq_true.mp g3 x (by rw [hsl]; exact mem_noE hx he)) (by rw [List.length_nil]; omega)
    rw [List.nil_append, filt_noE, ← hsl] at cS
    have eS : (sl.map fun x => slotD (nm (cd2 x).1, nm (cd2 x).2)) = (sl.map fun x => (nm (cd2 x).1, nm (cd2 x).2)).map slotD := by rw [List.map_map]; rfl
    rw [eS] at cS
    have cC := compD_pure (b := gName' 9) (t := asB (eBin neD (eVar 9) (eC (.str "")))) (e := eBin ixD (eVar 1) (eVar 9)) D.str (fun x : Str => if (x == "") = true then none else some (.str (nm (cd1 x))))
      (r0 := [some (.str page), some (.dct (tabKV nm)), some (.lst (parts.map D.str)), some (.lst ((sl.map fun x => (nm (cd2 x).1, nm (cd2 x).2)).map slotD)), none, none, none, none, none, none, none]) (S := S) (Txt.split a " ") []
      (fun x hx => cs_step ⟨_, _, _, _, _, _, _, _, _, _, rfl⟩ fun he => List.all_eq_true.mp g1 x (by rw [hcl]; exact mem_noE hx he)) (by rw [List.length_nil]; omega)
    rw [List.nil_append, filt_noE, ← hcl] at cC
    have eC' : (cl.map fun x => D.str (nm (cd1 x))) = (cl.map fun x => nm (cd1 x)).map D.str := by rw [List.map_map]; rfl
    rw [eC'] at cC
    obtain ⟨new, y6, y7, n1, n2, n3⟩ := wr_loop (nm := nm) (cs := cl.map cd1) (ss := sl.map fun x => (cd2 x).1) h1 (S := S) (x0 := some (.str page)) (x3 := some (.lst ((sl.map fun x => (nm (cd2 x).1, nm (cd2 x).2)).map slotD))) (x4 := some (.lst ((cl.map fun x => nm (cd1 x)).map D.str))) (x8 := none) (x9 := none) (x10 := none) (parts := parts) ps [a, b] 0 [] none none (by rw [hparts]; rfl) rfl (by omega) (by simp) (fun x hx => List.all_eq_true.mp g5 x hx)
    rw [List.nil_append] at n3
    rw [List.drop_zero] at n2
    have l1 : cl.length ≤ 2 := by rw [hcl]; exact Nat.le_trans (noE_len _) ca
    have l2 : sl.length ≤ 4 := by rw [hsl]; exact Nat.le_trans (noE_len _) cb
    have ok0 := page_pg tb g1 g2 g3 g4 n1 ⟨_, n2⟩ l1 l2
    obtain ⟨ys1, p1, s1⟩ := sorted_strs (cl.map fun x => nm (cd1 x)) (by rw [List.length_map]; omega)
    obtain ⟨ys2, p2, s2⟩ := sorted_ht slotD (·.1) (fun s => [.str s.2]) (fun _ => rfl) (sl.map fun x => (nm (cd2 x).1, nm (cd2 x).2)) ok0.ndS (by rw [List.length_map]; omega)
    obtain ⟨ys3, p3, s3⟩ := sorted_ht partyD (·.1) (fun s => [.tup (s.2.map Arw.d)]) (fun _ => rfl) new ok0.ndP (by have := ok0.lenP; simp only at this; omega)
    refine ⟨⟨ys1, ys2, ys3⟩, ok0.perm p1 p2 p3, ?_⟩
    show doneR false S (B__law_written F1 [some (.str page), some (.dct (tabKV nm)), none, none, none, none, none, none, none, none, none] S) = _
    have rg := range2 (n := ps.length + 2) (by omega) (by omega)
    rw [Nat.add_sub_cancel, ← hlen] at rg
    have fin := cut_app S [.lst (new.map partyD)] (Pg.d ⟨ys1, ys2, ys3⟩) (nb_lt _ _ (pk_pg _).1)
    have ev : B__law_written F1 [some (.str page), some (.dct (tabKV nm)), none, none, none, none, none, none, none, none, none] S = .ok (.rt (Pg.d ⟨ys1, ys2, ys3⟩)) (S ++ [.lst (new.map partyD)]) := by
      simp only [wrB, List.map_nil] at n3
      simp_arith only [B__law_written, sp0, i0, i1, spa, spb, cS, cC, few0, few3, rg, n3, s1, s2, s3, app_get, Pg.d]
    rw [ev]
    exact fin
  · cases hm
end SS
end

section
set_option Elab.async false
set_option linter.all false
set_option maxRecDepth 100000
set_option autoImplicit false
set_option maxHeartbeats 4000000
namespace SS
open PySem PySem.Spec PyProof.Rows L2 FL
local macro_rules
  | `(tactic| simp_arith only [$xs,*]) => `(tactic| simp (config := { implicitDefEqProofs := false }) only [tn_ok, oR_some, nx_ok, ev_var, ev_c, ev_bin, ev_kBin1, ev_kBin2, ev_un, ev_kUn, ev_asB, ev_kB, ev_asT, ev_kT, ev_tAnd2, ev_kAndT, ev_kAndF, ev_tOr2, ev_kOrT, ev_kOrF, ev_not, ev_kNot, ev_eAnd2, ev_kAndE, ev_kAndET, ev_kAndEF, ev_eOr2, ev_kOrE, ev_kOrET, ev_kOrEF, ev_eNot1, ev_kNotE, ev_kNotE2, ev_if, ev_kIfT, ev_kIfF, ev_aNil, ev_aCons, ev_kCons, ev_kCons2, ev_aStar, ev_kStar, ev_kStar2, ev_kStar3, ev_eTup, ev_kTup, ev_kTup2, ev_eLst, ev_kLst, ev_kLst2, ev_eNewL, ev_kNewL, ev_kNewL2, ev_newD, ev_callP, ev_kCallP, ev_call, ev_kCall, ev_kCall2, ev_oNone, ev_oSome, ev_kO, ev_kO2, ev_sl, ev_kSl, ev_kSl2, ev_kSl3, ev_meth, ev_kM, ev_kM2, ev_kM3, ev_meth0, ev_kM0, ev_chain, ev_kCh, ev_kCh2, ev_kCh3T, ev_kCh3F, ev_kCh4, ev_kLs, ev_kComp, ev_comp, ev_kRef, ev_compM, ev_kComp2, ev_comp2, ev_iSeq, ev_kIt, ev_iRange, ev_kRg, ev_enT, ev_enL, ev_iEnum, items_lst, items_tup, items_str, ev_true, ev_ret, ev_kRet, ev_expr, ev_kEx, ev_asg, ev_kAsg, ev_kNx, ev_seq, ev_kSeqN, ev_kSeqR, ev_kSeqB, ev_kSeqC, ev_ifS, ev_kIfST, ev_kIfSF, ev_for, ev_kFor, ev_next, ev_retN, ev_break, ev_cont, ev_par, ev_kPar, ev_par3, ev_kPar3, ev_gName, ev_gTup, ev_gsNil, ev_gsCons, ev_kGs, ev_gSub, ev_kSub, ev_kSub2, ev_kSub3, ev_kSub4, ev_mut, ev_kMu, ev_kMu2, ev_kMu3, ev_kMu4, ev_catM, ev_kCat, ev_kCat2, ev_catR, vw_non, vw_bl, vw_int, vw_str, vw_lst, vw_tup, vw_dct, vw_ref, vwO_lst, vwO_dct, tru_bl, tru_int, tru_lst, tru_tup, tru_non, add_int, add_lst, add_tup, add_str, sub_int, neg_int, gt_int, ge_int, lt_int, le_int, len_lst, len_tup, len_dct, len_str, int_int, tuple_lst, tuple_tup, list_lst, list_tup, sl_lst, sl_tup, is_non, isnt_non, non_bl, non_int, non_str, non_lst, non_tup, non_non, int_int?, ref_ref?, alt_tup, alt_lst, isi_int_non, isi_int_bl, isi_int_int, isi_int_str, isi_int_lst, isi_int_tup, isi_bool_non, isi_bool_bl, isi_bool_int, isi_bool_str, isi_bool_lst, isi_bool_tup, isi_str_non, isi_str_bl, isi_str_int, isi_str_str, isi_str_lst, isi_str_tup, isi_tuple_non, isi_tuple_bl, isi_tuple_int, isi_tuple_str, isi_tuple_lst, isi_tuple_tup, isi_list_non, isi_list_bl, isi_list_int, isi_list_str, isi_list_lst, isi_list_tup, isi_dict_non, isi_dict_bl, isi_dict_int, isi_dict_str, isi_dict_lst, isi_dict_tup, tyIn_lst2, tyD_lst, tyIn_tup2, tyD_tup, tyIn_str, tyD_str, tyIn_dct, tyD_dct, ev_cStep, ev_kC, ev_kC2T, ev_kC2F, ev_kSome, ev_cStep2, ev_kD, ev_kD2T, ev_kD2F, ev_kD3, ev_lStep, ev_kL, List.getElem?_cons_zero, List.getElem?_cons_succ, Option.join_some, Option.bind_some, Option.map_some, wipeE, List.set_cons_zero, List.set_cons_succ, List.length_cons, List.length_nil, List.map_cons, List.map_nil, gAll, gDef, List.cons_append, List.nil_append, if_true, if_false, Bool.not_true, Bool.not_false, Nat.zero_add, Nat.reduceAdd, Nat.reduceLeDiff, and_true, and_self, true_and, reduceIte, Bool.false_eq_true, $xs,*])
/-! ## the scenes -/
def SpScenes (F : Fn) : Prop := ∃ xs : List Str, xs ≠ [] ∧ xs.length ≤ 1000 ∧ (∀ x ∈ xs, pageOk x = true) ∧ ∀ S : Sto, F [] S = .ok (.lst (xs.map D.str)) S
theorem mut_app1 (S : Sto) (xs : List D) (d : D) (h : decide (xs.length < 1000000) = true) : mutAt "list" appendD S.length [d] (S ++ [.lst xs]) = .ok .non (S ++ [.lst (xs ++ [d])]) := by
  have := mut_app (S := S ++ [.lst xs]) (n := S.length) (xs := xs) (d := d) (app_get ..) (of_decide_eq_true h)
  rw [app_set] at this
  exact this
theorem few_dec {α : Type} {xs : List α} (h : decide (xs.length ≤ 1000000) = true) : few xs = some xs := few_ok (of_decide_eq_true h)
theorem cap_dec {α : Type} {n : Nat} {a : α} (h : decide (n ≤ 1000000) = true) : cap n a = some a := cap_ok (of_decide_eq_true h)
theorem catR_dec (S : Sto) (xs ys : List D) (h : decide (xs.length + ys.length ≤ 1000000) = true) : catR S (.lst xs) (.lst ys) = .ok (.ref S.length) (S ++ [.lst (xs ++ ys)]) := by
  show (if xs.length + ys.length ≤ 1000000 then _ else _) = _
  rw [if_pos (of_decide_eq_true h)]
def scenesL : List Str :=
  ["c;s:c;0 keep s 1,1 rise c 1 2,2 rise c 2 2,2 other s 0", Str.ofString "c;s:c;0 keep s 1,1 rise c 4 2" ++ Str.ofString ",2 same s 0,2 other s 0", "c;s:c;0 keep s 1,1 same s 0,1 other s 0;0 rise c 1 0", Str.ofString "c;s:c;0 rise c 2 2" ++ Str.ofString ",2 same s 0,2 other s 0",
   Str.ofString "c;s:c;0 keep s 1,1 rise c 3 2,2 rise c 3 3,3 rise c 3 2" ++ Str.ofString ",2 same s 0,2 other s 0", "c;s:c t:c u:c;0 keep s 1,1 copy t s 2,2 copy u t 3,3 rise c 2 4,4 other u 0,4 same t 0",
   Str.ofString "c;s:c t:c;0 keep s 1,1 rise c 1 2,2 keep s 1,1 keep t 1" ++ Str.ofString ",2 same s 0,2 other s 0", "c;s:c t:c;0 keep s 1,1 rise c 3 2,2 keep t 3,3 rise c 1 3,3 agree s t 0,3 differ t s 0",
   "c;s:c t:c;0 rise c 3 1,1 keep t 2,2 newer s t 0,2 elder s t 0,2 rise c 1 3,3 keep s 2", "c;s:c;0 same s 1,1 rise c 2 0,0 other s 2,2 keep s 0", "c;s:c;0 do x 0,3 same s 0,0 rise c 1 0", "c;s:c;0 keep s 1,1 rise c 1 2,2 spare c 1 2,2 rise c 2 2,2 other s 0",
   Str.ofString "c d;s:c t:d;0 keep s 1,1 keep t 2,2 rise c 2 3,2 rise d 3 3" ++ Str.ofString ",3 other s 0,3 other t 0;0 rise c 1 1,1 do x 0",
   "c;s:c t:c u:c;0 rise c 1 1,1 keep s 2,2 rise c 2 3,3 keep t 4,4 copy u t 0,4 newer u s 4", "c;s:c;;0 rise c 1 0;0 same s 1,1 keep s 0,0 other s 1",
   Str.ofString "c d;s:d t:c u:d v:c;0 keep t 0,0 copy v t 1,1 rise d 4 0" ++ Str.ofString ";0 copy s u 0,0 agree v t 1,1 elder u s 0", "c;s:c;", ";;0 do x 1,1 do x 0", ";"]
theorem law_scenes_ok : SpScenes (dBody false 5 B__law_scenes) := by
  refine ⟨scenesL, (by unfold scenesL; exact List.cons_ne_nil _ _), (by decide +kernel), ?_, fun S => ?_⟩
  · have : scenesL.all pageOk = true := by decide +kernel
    exact fun x hx => List.all_eq_true.mp this x hx
  · have ev : ∃ X, B__law_scenes [none, none, none, none, none] S = .ok (.rt (.lst (scenesL.map D.str))) (S ++ X) := by
      have e : B__law_scenes [none, none, none, none, none] S = B__law_scenes [none, none, none, none, none] S := rfl
      conv at e =>
        rhs
        simp (config := { implicitDefEqProofs := false }) (disch := decide +kernel) only [B__law_scenes, tn_ok, oR_some, nx_ok, ev_var, ev_c, ev_bin, ev_kBin1, ev_kBin2, ev_un, ev_kUn, ev_asB, ev_kB, ev_asT, ev_kT, ev_tAnd2, ev_kAndT, ev_kAndF, ev_tOr2, ev_kOrT, ev_kOrF, ev_not, ev_kNot, ev_eAnd2, ev_kAndE, ev_kAndET, ev_kAndEF, ev_eOr2, ev_kOrE, ev_kOrET, ev_kOrEF, ev_eNot1, ev_kNotE, ev_kNotE2, ev_if, ev_kIfT, ev_kIfF, ev_aNil, ev_aCons, ev_kCons, ev_kCons2, ev_aStar, ev_kStar, ev_kStar2, ev_kStar3, ev_eTup, ev_kTup, ev_kTup2, ev_eLst, ev_kLst, ev_kLst2, ev_eNewL, ev_kNewL, ev_kNewL2, ev_newD, ev_callP, ev_kCallP, ev_call, ev_kCall, ev_kCall2, ev_oNone, ev_oSome, ev_kO, ev_kO2, ev_sl, ev_kSl, ev_kSl2, ev_kSl3, ev_meth, ev_kM, ev_kM2, ev_kM3, ev_meth0, ev_kM0, ev_chain, ev_kCh, ev_kCh2, ev_kCh3T, ev_kCh3F, ev_kCh4, ev_kLs, ev_kComp, ev_comp, ev_kRef, ev_compM, ev_kComp2, ev_comp2, ev_iSeq, ev_kIt, ev_iRange, ev_kRg, ev_enT, ev_enL, ev_iEnum, items_lst, items_tup, items_str, ev_true, ev_ret, ev_kRet, ev_expr, ev_kEx, ev_asg, ev_kAsg, ev_kNx, ev_seq, ev_kSeqN, ev_kSeqR, ev_kSeqB, ev_kSeqC, ev_ifS, ev_kIfST, ev_kIfSF, ev_for, ev_kFor, ev_next, ev_retN, ev_break, ev_cont, ev_par, ev_kPar, ev_par3, ev_kPar3, ev_gName, ev_gTup, ev_gsNil, ev_gsCons, ev_kGs, ev_gSub, ev_kSub, ev_kSub2, ev_kSub3, ev_kSub4, ev_mut, ev_kMu, ev_kMu2, ev_kMu3, ev_kMu4, ev_catM, ev_kCat, ev_kCat2, ev_catR, vw_non, vw_bl, vw_int, vw_str, vw_lst, vw_tup, vw_dct, vw_ref, vwO_lst, vwO_dct, tru_bl, tru_int, tru_lst, tru_tup, tru_non, add_int, add_lst, add_tup, add_str, sub_int, neg_int, gt_int, ge_int, lt_int, le_int, len_lst, len_tup, len_dct, len_str, int_int, tuple_lst, tuple_tup, list_lst, list_tup, sl_lst, sl_tup, is_non, isnt_non, non_bl, non_int, non_str, non_lst, non_tup, non_non, int_int?, ref_ref?, alt_tup, alt_lst, isi_int_non, isi_int_bl, isi_int_int, isi_int_str, isi_int_lst, isi_int_tup, isi_bool_non, isi_bool_bl, isi_bool_int, isi_bool_str, isi_bool_lst, isi_bool_tup, isi_str_non, isi_str_bl, isi_str_int, isi_str_str, isi_str_lst, isi_str_tup, isi_tuple_non, isi_tuple_bl, isi_tuple_int, isi_tuple_str, isi_tuple_lst, isi_tuple_tup, isi_list_non, isi_list_bl, isi_list_int, isi_list_str, isi_list_lst, isi_list_tup, isi_dict_non, isi_dict_bl, isi_dict_int, isi_dict_str, isi_dict_lst, isi_dict_tup, tyIn_lst2, tyD_lst, tyIn_tup2, tyD_tup, tyIn_str, tyD_str, tyIn_dct, tyD_dct, ev_cStep, ev_kC, ev_kC2T, ev_kC2F, ev_kSome, ev_cStep2, ev_kD, ev_kD2T, ev_kD2F, ev_kD3, ev_lStep, ev_kL, List.getElem?_cons_zero, List.getElem?_cons_succ, Option.join_some, Option.bind_some, Option.map_some, wipeE, List.set_cons_zero, List.set_cons_succ, List.length_cons, List.length_nil, List.map_cons, List.map_nil, gAll, gDef, List.cons_append, List.nil_append, if_true, if_false, Bool.not_true, Bool.not_false, Nat.zero_add, Nat.reduceAdd, Nat.reduceLeDiff, and_true, and_self, true_and, reduceIte, Bool.false_eq_true, few_dec, cap_dec, catR_dec, mut_app1, app_get, ob_list]
      rw [List.append_assoc, List.append_assoc] at e
      exact ⟨_, e⟩
    obtain ⟨X, ev⟩ := ev
    show doneR false S (B__law_scenes [none, none, none, none, none] S) = _
    rw [ev]
    refine (show doneR false S (.ok (.rt (.lst (scenesL.map D.str))) (S ++ X)) = cutR S (.lst (scenesL.map D.str)) (S ++ X) from rfl).trans (cut_app S X _ (nb_lt _ _ ?_))
    simp only [nb]
    exact (nbs_iff _).mpr fun d hd => by
      obtain ⟨x, _, rfl⟩ := List.mem_map.mp hd
      rfl
end SS
end

section
set_option Elab.async false
set_option linter.all false
set_option maxRecDepth 100000
set_option autoImplicit false
set_option maxHeartbeats 4000000
namespace SS
open PySem PySem.Spec PyProof.Rows L2 FL
local macro_rules
  | `(tactic| simp_arith only [$xs,*]) => `(tactic| simp (config := { implicitDefEqProofs := false }) only [tn_ok, oR_some, nx_ok, ev_var, ev_c, ev_bin, ev_kBin1, ev_kBin2, ev_un, ev_kUn, ev_asB, ev_kB, ev_asT, ev_kT, ev_tAnd2, ev_kAndT, ev_kAndF, ev_tOr2, ev_kOrT, ev_kOrF, ev_not, ev_kNot, ev_eAnd2, ev_kAndE, ev_kAndET, ev_kAndEF, ev_eOr2, ev_kOrE, ev_kOrET, ev_kOrEF, ev_eNot1, ev_kNotE, ev_kNotE2, ev_if, ev_kIfT, ev_kIfF, ev_aNil, ev_aCons, ev_kCons, ev_kCons2, ev_aStar, ev_kStar, ev_kStar2, ev_kStar3, ev_eTup, ev_kTup, ev_kTup2, ev_eLst, ev_kLst, ev_kLst2, ev_eNewL, ev_kNewL, ev_kNewL2, ev_newD, ev_callP, ev_kCallP, ev_call, ev_kCall, ev_kCall2, ev_oNone, ev_oSome, ev_kO, ev_kO2, ev_sl, ev_kSl, ev_kSl2, ev_kSl3, ev_meth, ev_kM, ev_kM2, ev_kM3, ev_meth0, ev_kM0, ev_chain, ev_kCh, ev_kCh2, ev_kCh3T, ev_kCh3F, ev_kCh4, ev_kLs, ev_kComp, ev_comp, ev_kRef, ev_compM, ev_kComp2, ev_comp2, ev_iSeq, ev_kIt, ev_iRange, ev_kRg, ev_enT, ev_enL, ev_iEnum, items_lst, items_tup, items_str, ev_true, ev_ret, ev_kRet, ev_expr, ev_kEx, ev_asg, ev_kAsg, ev_kNx, ev_seq, ev_kSeqN, ev_kSeqR, ev_kSeqB, ev_kSeqC, ev_ifS, ev_kIfST, ev_kIfSF, ev_for, ev_kFor, ev_next, ev_retN, ev_break, ev_cont, ev_par, ev_kPar, ev_par3, ev_kPar3, ev_gName, ev_gTup, ev_gsNil, ev_gsCons, ev_kGs, ev_gSub, ev_kSub, ev_kSub2, ev_kSub3, ev_kSub4, ev_mut, ev_kMu, ev_kMu2, ev_kMu3, ev_kMu4, ev_catM, ev_kCat, ev_kCat2, ev_catR, vw_non, vw_bl, vw_int, vw_str, vw_lst, vw_tup, vw_dct, vw_ref, vwO_lst, vwO_dct, tru_bl, tru_int, tru_lst, tru_tup, tru_non, add_int, add_lst, add_tup, add_str, sub_int, neg_int, gt_int, ge_int, lt_int, le_int, len_lst, len_tup, len_dct, len_str, int_int, tuple_lst, tuple_tup, list_lst, list_tup, sl_lst, sl_tup, is_non, isnt_non, non_bl, non_int, non_str, non_lst, non_tup, non_non, int_int?, ref_ref?, alt_tup, alt_lst, isi_int_non, isi_int_bl, isi_int_int, isi_int_str, isi_int_lst, isi_int_tup, isi_bool_non, isi_bool_bl, isi_bool_int, isi_bool_str, isi_bool_lst, isi_bool_tup, isi_str_non, isi_str_bl, isi_str_int, isi_str_str, isi_str_lst, isi_str_tup, isi_tuple_non, isi_tuple_bl, isi_tuple_int, isi_tuple_str, isi_tuple_lst, isi_tuple_tup, isi_list_non, isi_list_bl, isi_list_int, isi_list_str, isi_list_lst, isi_list_tup, isi_dict_non, isi_dict_bl, isi_dict_int, isi_dict_str, isi_dict_lst, isi_dict_tup, tyIn_lst2, tyD_lst, tyIn_tup2, tyD_tup, tyIn_str, tyD_str, tyIn_dct, tyD_dct, ev_cStep, ev_kC, ev_kC2T, ev_kC2F, ev_kSome, ev_cStep2, ev_kD, ev_kD2T, ev_kD2F, ev_kD3, ev_lStep, ev_kL, List.getElem?_cons_zero, List.getElem?_cons_succ, Option.join_some, Option.bind_some, Option.map_some, wipeE, List.set_cons_zero, List.set_cons_succ, List.length_cons, List.length_nil, List.map_cons, List.map_nil, gAll, gDef, List.cons_append, List.nil_append, if_true, if_false, Bool.not_true, Bool.not_false, Nat.zero_add, Nat.reduceAdd, Nat.reduceLeDiff, and_true, and_self, true_and, reduceIte, Bool.false_eq_true, $xs,*])
/-! ## pairs of slots -/
def SpPairs (F : Fn) : Prop := ∀ (p : Pg) (S : Sto), p.Ok → ∃ prs : List (Str × Str), (∀ q ∈ prs, p.hasS q.1 ∧ p.hasS q.2) ∧ prs.length ≤ 100 ∧ F [p.d] S = .ok (.lst (prs.map slotD)) S
def prB : FSx := (sAsg (eBin addD (eVar 1) (eComp [4] (iSeqD (eBin ixD (eVar 0) (eC (.int 1)))) (gName' 4) (tAnd2 (asB (eBin neD (eBin ixD (eVar 4) (eC (.int 0))) (eVar 2))) (asB (eBin eqD (eBin ixD (eVar 4) (eC (.int 1))) (eVar 3)))) (eTup (aCons (eVar 2) (aCons (eBin ixD (eVar 4) (eC (.int 0))) aNil))))) (gName' 1))
def prOf (ss : List (Str × Str)) (s : Str × Str) : List (Str × Str) := ss.filterMap fun o => if (o.1 == s.1) = true then none else if (o.2 == s.2) = true then some (s.1, o.1) else none
theorem prOf_len (ss : List (Str × Str)) (s : Str × Str) : (prOf ss s).length ≤ ss.length := List.length_filterMap_le ..
theorem prOf_mem {ss : List (Str × Str)} {s q : Str × Str} (h : q ∈ prOf ss s) : q.1 = s.1 ∧ q.2 ∈ ss.map (·.1) := by
  obtain ⟨o, ho, e⟩ := List.mem_filterMap.mp h
  split at e
  · cases e
  · split at e
    · cases e
      exact ⟨rfl, List.mem_map.mpr ⟨o, ho, rfl⟩⟩
    · cases e
theorem fmap_map {α β γ : Type} (f : α → Option β) (g : β → γ) (xs : List α) : xs.filterMap (fun x => (f x).map g) = (xs.filterMap f).map g := by
  induction xs with
  | nil => rfl
  | cons x xs ih =>
    cases h : f x with
    | none => rw [List.filterMap_cons_none (by simp [h]), List.filterMap_cons_none h, ih]
    | some y => rw [List.filterMap_cons_some (b := g y) (by simp [h]), List.filterMap_cons_some h, List.map_cons, ih]
theorem pr_loop {p : Pg} (ok : p.Ok) {S : Sto} : ∀ (qs acc : List (Str × Str)) (x2 x3 x4 : Option D), (∀ q ∈ qs, q ∈ p.ss) → (∀ q ∈ acc, p.hasS q.1 ∧ p.hasS q.2) → acc.length + 10 * qs.length ≤ 100 → ∃ (acc' : List (Str × Str)) (y2 y3 y4 : Option D), (∀ q ∈ acc', p.hasS q.1 ∧ p.hasS q.2) ∧ acc'.length ≤ acc.length + 10 * qs.length ∧
    loopD (gTup' 2 (gsCons (gName' 2) (gsCons (gName' 3) gsNil))) prB (qs.map slotD) [some p.d, some (.lst (acc.map slotD)), x2, x3, x4] S = .ok (.nx [some p.d, some (.lst (acc'.map slotD)), y2, y3, y4]) S
  | [], acc, x2, x3, x4, _, h, _ => ⟨acc, x2, x3, x4, h, by simp, rfl⟩
  | q :: qs, acc, x2, x3, x4, hq, h, hl => by
    rw [List.length_cons] at hl
    have ls := ok.lenS
    have l1 := prOf_len p.ss q
    obtain ⟨acc', y2, y3, y4, r1, r2, r3⟩ := pr_loop ok (S := S) qs (acc ++ prOf p.ss q) (some (.str q.1)) (some (.str q.2)) x4 (fun x hx => hq x (List.mem_cons_of_mem _ hx)) (fun x hx => by
      rcases List.mem_append.mp hx with hx | hx
      · exact h x hx
      · obtain ⟨e1, e2⟩ := prOf_mem hx
        exact ⟨by rw [e1]; exact List.mem_map.mpr ⟨q, hq q List.mem_cons_self, rfl⟩, e2⟩) (by rw [List.length_append]; omega)
    refine ⟨acc', y2, y3, y4, r1, by rw [List.length_append] at r2; rw [List.length_cons]; omega, ?_⟩
    have cp := compD_pure (b := gName' 4) (t := tAnd2 (asB (eBin neD (eBin ixD (eVar 4) (eC (.int 0))) (eVar 2))) (asB (eBin eqD (eBin ixD (eVar 4) (eC (.int 1))) (eVar 3)))) (e := eTup (aCons (eVar 2) (aCons (eBin ixD (eVar 4) (eC (.int 0))) aNil))) slotD (fun o : Str × Str => (if (o.1 == q.1) = true then none else if (o.2 == q.2) = true then some (q.1, o.1) else none).map slotD)
      (r0 := [some p.d, some (.lst (acc.map slotD)), some (.str q.1), some (.str q.2), none]) (S := S) p.ss [] (fun o ho => by
        show cStep _ _ _ _ (.tup [.str o.1, .str o.2]) S = _
        cases e1 : (o.1 == q.1) with
        | true => simp_arith only [ixD_tup, atI_0, atI_1, neD_str, eqD_str, e1, Option.map_none]
        | false =>
          cases e2 : (o.2 == q.2) with
          | true => simp_arith only [ixD_tup, atI_0, atI_1, neD_str, eqD_str, e1, e2, few2, slotD]
          | false => simp_arith only [ixD_tup, atI_0, atI_1, neD_str, eqD_str, e1, e2, Option.map_none]) (by rw [List.length_nil]; omega)
    rw [List.nil_append, fmap_map] at cp
    have pf : (p.ss.filterMap fun o => if (o.1 == q.1) = true then none else if (o.2 == q.2) = true then some (q.1, o.1) else none) = prOf p.ss q := rfl
    rw [pf] at cp
    have cl : (acc.map slotD).length + ((prOf p.ss q).map slotD).length ≤ 1000000 := by rw [List.length_map, List.length_map]; omega
    have st : lStep (gTup' 2 (gsCons (gName' 2) (gsCons (gName' 3) gsNil))) prB (slotD q) [some p.d, some (.lst (acc.map slotD)), x2, x3, x4] S = .ok (.nx [some p.d, some (.lst ((acc ++ prOf p.ss q).map slotD)), some (.str q.1), some (.str q.2), x4]) S := by
      rw [List.map_append]
      rw [pgD] at cp ⊢
      rw [show slotD q = .tup [.str q.1, .str q.2] from rfl]
      simp_arith only [prB, ixD_tup, atI_1, cp, cap_ok cl]
    rw [List.map_cons, loopD_step st]
    exact r3
theorem law_pairs_ok : SpPairs (dBody false 5 B__law_pairs) := by
  intro p S ok
  have ls := ok.lenS
  obtain ⟨acc', y2, y3, y4, r1, r2, r3⟩ := pr_loop ok (S := S) p.ss [] none none none (fun _ h => h) (by intro _ h; cases h) (by rw [List.length_nil]; omega)
  refine ⟨acc', r1, by rw [List.length_nil] at r2; omega, ?_⟩
  show doneR false S (B__law_pairs [some p.d, none, none, none, none] S) = _
  simp only [prB, List.map_nil] at r3
  rw [pgD] at r3 ⊢
  simp_arith only [B__law_pairs, few0, ixD_tup, atI_1, r3, done_eq]
/-! ## a drawn deed -/
theorem pick_strs {F : Fn} (h : SpPick F) {S : Sto} {i n : Nat} {xs : List Str} (b : Bool) (ht : Tp S i n) (hn : n ≤ 100000) (hx : xs ≠ []) (hl : xs.length ≤ 1000) : ∃ (x : Str) (S' : Sto), x ∈ xs ∧ F [.ref i, if b then .lst (xs.map D.str) else .tup (xs.map D.str)] S = .ok (.str x) S' ∧ Ch S S' i (n + 1) := by
  obtain ⟨j, d, S', g, e, c⟩ := h S i n (xs.map D.str) b ht hn (by simpa using hx) (by simpa using hl)
  obtain ⟨x, hx, rfl⟩ := List.mem_map.mp (List.mem_of_getElem? g)
  exact ⟨x, S', hx, e, c⟩
theorem pick_slots {F : Fn} (h : SpPick F) {S : Sto} {i n : Nat} {xs : List (Str × Str)} (b : Bool) (ht : Tp S i n) (hn : n ≤ 100000) (hx : xs ≠ []) (hl : xs.length ≤ 1000) : ∃ (x : Str × Str) (S' : Sto), x ∈ xs ∧ F [.ref i, if b then .lst (xs.map slotD) else .tup (xs.map slotD)] S = .ok (slotD x) S' ∧ Ch S S' i (n + 1) := by
  obtain ⟨j, d, S', g, e, c⟩ := h S i n (xs.map slotD) b ht hn (by simpa using hx) (by simpa using hl)
  obtain ⟨x, hx, rfl⟩ := List.mem_map.mp (List.mem_of_getElem? g)
  exact ⟨x, S', hx, e, c⟩
def SpDeed (F : Fn) : Prop := ∀ (S : Sto) (i n : Nat) (p : Pg), Tp S i n → n + 3 ≤ 100000 → p.Ok → ∃ (w : Deed) (S' : Sto), p.okD w ∧ F [.ref i, p.d] S = .ok w.d S' ∧ Ch S S' i (n + 3)
def dw1 : List Str := ["rise", "rise", "rise", "spare"]
def dw2 : List Str := ["keep", "keep", "same", "other", "other"]
def dw3 : List Str := ["copy", "copy", "agree", "differ", "newer", "elder"]
def dw4 : List Str := ["x", "go", "abcdefgh"]
def dTail (F3 : Fn) : FSx := (sSeq (sIf (tAnd2 (asB (eBin ltD (eVar 2) (eC (.int 13)))) (asB (eBin neD (eVar 3) (eLst aNil)))) (sRet (eBin addD (eTup (aCons (eCall 2 0 gAll F3 (aCons (eVar 0) (aCons (eLst (aCons (eC (.str "copy")) (aCons (eC (.str "copy")) (aCons (eC (.str "agree")) (aCons (eC (.str "differ")) (aCons (eC (.str "newer")) (aCons (eC (.str "elder")) aNil))))))) aNil)) aNil) aNil)) (eCall 2 0 gAll F3 (aCons (eVar 0) (aCons (eVar 3) aNil)) aNil))) sNext) (sRet (eTup (aCons (eC (.str "do")) (aCons (eCall 2 0 gAll F3 (aCons (eVar 0) (aCons (eLst (aCons (eC (.str "x")) (aCons (eC (.str "go")) (aCons (eC (.str "abcdefgh")) aNil)))) aNil)) aNil) aNil)))))
def dHead (F1 F2 F3 : Fn) (t : FSx) : FSx := (sSeq (sPar 2 3 (aCons (eCall 2 0 gAll F1 (aCons (eVar 0) (aCons (eC (.int 14)) aNil)) aNil) (aCons (eCall 1 0 gAll F2 (aCons (eVar 1) aNil) aNil) aNil))) (sSeq (sIf (tAnd2 (asB (eBin ltD (eVar 2) (eC (.int 4)))) (asB (eBin neD (eBin ixD (eVar 1) (eC (.int 0))) (eTup aNil)))) (sRet (eTup (aCons (eBin ixD (eLst (aCons (eC (.str "rise")) (aCons (eC (.str "rise")) (aCons (eC (.str "rise")) (aCons (eC (.str "spare")) aNil))))) (eVar 2)) (aCons (eCall 2 0 gAll F3 (aCons (eVar 0) (aCons (eBin ixD (eVar 1) (eC (.int 0))) aNil)) aNil) (aCons (eBin addD (eC (.int 1)) (eCall 2 0 gAll F1 (aCons (eVar 0) (aCons (eC (.int 4)) aNil)) aNil)) aNil))))) sNext) (sSeq (sIf (tAnd2 (asB (eChain leD ltD (eC (.int 4)) (eVar 2) (eC (.int 9)))) (asB (eBin neD (eBin ixD (eVar 1) (eC (.int 1))) (eTup aNil)))) (sRet (eTup (aCons (eBin ixD (eLst (aCons (eC (.str "keep")) (aCons (eC (.str "keep")) (aCons (eC (.str "same")) (aCons (eC (.str "other")) (aCons (eC (.str "other")) aNil)))))) (eBin subD (eVar 2) (eC (.int 4)))) (aCons (eBin ixD (eCall 2 0 gAll F3 (aCons (eVar 0) (aCons (eBin ixD (eVar 1) (eC (.int 1))) aNil)) aNil) (eC (.int 0))) aNil)))) sNext) t)))
theorem cap3 (a : D) : cap 3 a = some a := cap_ok (by omega)
theorem isE_map {α β : Type} (f : α → β) (xs : List α) : (xs.map f).isEmpty = xs.isEmpty := by cases xs <;> rfl
theorem few4 (a b c d : D) : few [a, b, c, d] = some [a, b, c, d] := few_ok (by simp)
theorem few5 (a b c d e : D) : few [a, b, c, d, e] = some [a, b, c, d, e] := few_ok (by simp)
theorem dTail_ok {F3 : Fn} (h3 : SpPick F3) {S : Sto} {i n v : Nat} {p : Pg} {prs : List (Str × Str)} {x1 : Option D} (ht : Tp S i n) (hn : n + 2 ≤ 100000) (r1 : ∀ q ∈ prs, p.hasS q.1 ∧ p.hasS q.2) (r2 : prs.length ≤ 100) :
    ∃ (w : Deed) (S' : Sto), p.okD w ∧ dTail F3 [some (.ref i), x1, some (.int (v : Nat)), some (.lst (prs.map slotD))] S = .ok (.rt w.d) S' ∧ Ch S S' i (n + 2) := by
  have pkp : Pn (.lst (prs.map slotD)) := (pk_lst (n := 1) fun d hd => by
    obtain ⟨x, _, rfl⟩ := List.mem_map.mp hd
    exact pk_slot x).pn (by omega)
  have np := ne_nilL pkp
  rw [isE_map] at np
  obtain ⟨x, S2, hx, e3, c2⟩ := pick_strs h3 (xs := dw4) true ht (by omega) (by unfold dw4; exact List.cons_ne_nil _ _) (by decide)
  simp only [if_true, dw4, List.map_cons, List.map_nil] at e3
  have hx8 : okN x := of_decide_eq_true (List.all_eq_true.mp (show dw4.all (fun x => decide (okN x)) = true by decide +kernel) x hx)
  by_cases a : (v : Int) < 13
  · cases hp : prs.isEmpty with
    | true =>
      rw [hp] at np
      refine ⟨.doo x, S2, hx8, ?_, c2.mono (by omega)⟩
      simp_arith only [dTail, decide_eq_true a, few0, np, few3, few2, e3, Deed.d, Deed.args, Deed.word]
    | false =>
      rw [hp] at np
      have hne : prs ≠ [] := by simpa using hp
      obtain ⟨w, S3, hw, e4, c3⟩ := pick_strs h3 (xs := dw3) true ht (by omega) (by unfold dw3; exact List.cons_ne_nil _ _) (by decide)
      simp only [if_true, dw3, List.map_cons, List.map_nil] at e4
      obtain ⟨q, S4, hq, e5, c4⟩ := pick_slots h3 (xs := prs) true c3.tp (by omega) hne (by omega)
      simp only [if_true] at e5
      obtain ⟨q1, q2⟩ := r1 q hq
      have ev : dTail F3 [some (.ref i), x1, some (.int (v : Nat)), some (.lst (prs.map slotD))] S = .ok (.rt (.tup [.str w, .str q.1, .str q.2])) S4 := by
        unfold slotD at e5
        unfold slotD at np
        unfold slotD
        simp_arith only [dTail, decide_eq_true a, few0, np, few6, few1, e4, e5, cap3]
      have hw' : w ∈ w3 := by
        simp only [dw3, List.mem_cons, List.not_mem_nil, or_false] at hw
        simp only [w3, List.mem_cons, List.not_mem_nil, or_false]
        rcases hw with h | h | h | h | h | h <;> simp [h]
      simp only [w3, List.mem_cons, List.not_mem_nil, or_false] at hw'
      rcases hw' with rfl | rfl | rfl | rfl | rfl
      · exact ⟨.copy q.1 q.2, S4, ⟨q1, q2⟩, ev, c3.trans c4⟩
      · exact ⟨.agree q.1 q.2, S4, ⟨q1, q2⟩, ev, c3.trans c4⟩
      · exact ⟨.differ q.1 q.2, S4, ⟨q1, q2⟩, ev, c3.trans c4⟩
      · exact ⟨.newer q.1 q.2, S4, ⟨q1, q2⟩, ev, c3.trans c4⟩
      · exact ⟨.elder q.1 q.2, S4, ⟨q1, q2⟩, ev, c3.trans c4⟩
  · refine ⟨.doo x, S2, hx8, ?_, c2.mono (by omega)⟩
    simp_arith only [dTail, decide_eq_false a, few0, few3, few2, e3, Deed.d, Deed.args, Deed.word]
theorem law_deed_ok {F1 F2 F3 : Fn} (h1 : SpDraw F1) (h2 : SpPairs F2) (h3 : SpPick F3) : SpDeed (dBody false 4 (B__law_deed F1 F2 F3)) := by
  intro S i n p ht hn ok
  have key : ∃ (w : Deed) (S' : Sto), p.okD w ∧ dHead F1 F2 F3 (dTail F3) [some (.ref i), some p.d, none, none] S = .ok (.rt w.d) S' ∧ Ch S S' i (n + 3) := by
    obtain ⟨v, S1, hv, e1, c1⟩ := h1 S i n 14 ht (by omega) (by omega) (by omega)
    obtain ⟨prs, r1, r2, e2⟩ := h2 p S1 ok
    have nc := ne_nilT ((pk_strsT p.cs).pn (by omega))
    have ns := ne_nilT ((pk_slots p.ss).pn (by omega))
    rw [isE_map] at nc ns
    have lc := ok.lenC
    have ls := ok.lenS
    obtain ⟨wt, St, okt, et, ct⟩ := dTail_ok h3 (v := v) (x1 := some p.d) c1.tp (by omega) r1 r2
    rw [pgD] at e2 et ⊢
    rw [show ((14 : Nat) : Int) = (14 : Int) from rfl] at e1
    by_cases a : (v : Int) < 4
    · have b4 : ¬ (4 : Int) ≤ (v : Int) := by omega
      cases hc : p.cs.isEmpty with
      | true =>
        rw [hc] at nc
        refine ⟨wt, St, okt, ?_, c1.trans (ct.mono (by omega))⟩
        simp_arith only [dHead, e1, e2, decide_eq_true a, decide_eq_false b4, few0, ixD_tup, atI_0, nc, et]
      | false =>
        rw [hc] at nc
        obtain ⟨c, S2, hcm, e3, c2⟩ := pick_strs h3 (xs := p.cs) false c1.tp (by omega) (by simpa using hc) (by omega)
        simp only [Bool.false_eq_true, if_false] at e3
        obtain ⟨u, S3, hu, e4, c3⟩ := h1 S2 i (n + 1 + 1) 4 c2.tp (by omega) (by omega) (by omega)
        rw [show ((4 : Nat) : Int) = (4 : Int) from rfl] at e4
        have gw : ∃ w, (dw1.map D.str)[v]? = some (.str w) ∧ (w = "rise" ∨ w = "spare") := by
          have : v = 0 ∨ v = 1 ∨ v = 2 ∨ v = 3 := by omega
          rcases this with rfl | rfl | rfl | rfl
          · exact ⟨"rise", rfl, .inl rfl⟩
          · exact ⟨"rise", rfl, .inl rfl⟩
          · exact ⟨"rise", rfl, .inl rfl⟩
          · exact ⟨"spare", rfl, .inr rfl⟩
        obtain ⟨w, gw, hw⟩ := gw
        simp only [dw1, List.map_cons, List.map_nil] at gw
        have ev : dHead F1 F2 F3 (dTail F3) [some (.ref i), some (.tup [.tup (p.cs.map D.str), .tup (p.ss.map slotD), .tup (p.ps.map partyD)]), none, none] S = .ok (.rt (.tup [.str w, .str c, .int (1 + (u : Nat))])) S3 := by
          simp_arith only [dHead, e1, e2, decide_eq_true a, few0, few3, few4, ixD_tup, ixD_lst, atI_0, atI_nat gw, nc, e3, e4]
        rcases hw with rfl | rfl
        · exact ⟨.rise c (1 + (u : Nat)), S3, ⟨hcm, by omega, by omega⟩, ev, (c1.trans c2).trans c3⟩
        · exact ⟨.spare c (1 + (u : Nat)), S3, ⟨hcm, by omega, by omega⟩, ev, (c1.trans c2).trans c3⟩
    · have b4 : (4 : Int) ≤ (v : Int) := by omega
      by_cases b : (v : Int) < 9
      · cases hs : p.ss.isEmpty with
        | true =>
          rw [hs] at ns
          refine ⟨wt, St, okt, ?_, c1.trans (ct.mono (by omega))⟩
          simp_arith only [dHead, e1, e2, decide_eq_false a, decide_eq_true b4, decide_eq_true b, few0, ixD_tup, atI_1, ns, et]
        | false =>
          rw [hs] at ns
          obtain ⟨c, S2, hcm, e3, c2⟩ := pick_slots h3 (xs := p.ss) false c1.tp (by omega) (by simpa using hs) (by omega)
          simp only [Bool.false_eq_true, if_false] at e3
          have gw : ∃ w, (dw2.map D.str)[v - 4]? = some (.str w) ∧ (w = "keep" ∨ w = "same" ∨ w = "other") := by
            have : v = 4 ∨ v = 5 ∨ v = 6 ∨ v = 7 ∨ v = 8 := by omega
            rcases this with rfl | rfl | rfl | rfl | rfl
            · exact ⟨"keep", rfl, .inl rfl⟩
            · exact ⟨"keep", rfl, .inl rfl⟩
            · exact ⟨"same", rfl, .inr (.inl rfl)⟩
            · exact ⟨"other", rfl, .inr (.inr rfl)⟩
            · exact ⟨"other", rfl, .inr (.inr rfl)⟩
          obtain ⟨w, gw, hw⟩ := gw
          simp only [dw2, List.map_cons, List.map_nil] at gw
          have v4 : (v : Int) - 4 = ((v - 4 : Nat) : Int) := by omega
          have ev : dHead F1 F2 F3 (dTail F3) [some (.ref i), some (.tup [.tup (p.cs.map D.str), .tup (p.ss.map slotD), .tup (p.ps.map partyD)]), none, none] S = .ok (.rt (.tup [.str w, .str c.1])) S2 := by
            rw [show slotD c = .tup [.str c.1, .str c.2] from rfl] at e3
            simp_arith only [dHead, e1, e2, decide_eq_false a, decide_eq_true b4, decide_eq_true b, few0, few2, few5, v4, ixD_tup, ixD_lst, atI_0, atI_1, atI_nat gw, ns, e3]
          have hcs : p.hasS c.1 := List.mem_map.mpr ⟨c, hcm, rfl⟩
          rcases hw with rfl | rfl | rfl
          · exact ⟨.keep c.1, S2, hcs, ev, (c1.trans c2).mono (by omega)⟩
          · exact ⟨.same c.1, S2, hcs, ev, (c1.trans c2).mono (by omega)⟩
          · exact ⟨.other c.1, S2, hcs, ev, (c1.trans c2).mono (by omega)⟩
      · refine ⟨wt, St, okt, ?_, c1.trans (ct.mono (by omega))⟩
        simp_arith only [dHead, e1, e2, decide_eq_false a, decide_eq_true b4, decide_eq_false b, et]
  obtain ⟨w, S', k1, k2, k3⟩ := key
  refine ⟨w, S', k1, ?_, k3⟩
  show doneR false S (dHead F1 F2 F3 (dTail F3) [some (.ref i), some p.d, none, none] S) = _
  rw [k2]
  exact done_rt S S' _ k3.len
/-! ## an arrow with "rise" in the place of "spare" -/
def Deed.pl : Deed → Deed
  | .spare c n => .rise c n
  | w => w
def Arw.pl (a : Arw) : Arw := ⟨a.p, a.w.pl, a.q⟩
def SpPlain (F : Fn) : Prop := ∀ (a : Arw) (S : Sto), F [a.d] S = .ok a.pl.d S
theorem law_plain_ok : SpPlain (dBody false 1 B__law_plain) := by
  intro a S
  show doneR false S (B__law_plain [some a.d] S) = _
  have ad : a.d = .tup [.int a.p, .tup (.str a.w.word :: a.w.args), .int a.q] := rfl
  have kr : ∀ w : Deed, (w.word == Str.ofString "spare") = (match w with | .spare _ _ => true | _ => false) := by
    intro w
    cases w <;> (simp only [Deed.word]; decide +kernel)
  have c1 := kr a.w
  cases hw : a.w with
  | spare c n =>
    rw [hw] at c1
    simp only at c1
    rw [ad, hw]
    have cc : cutL [D.str (Deed.spare c n).word, .str c, .int n] (some 1) none = [.str c, .int n] := cut_drop _ 1 (by simp)
    simp_arith only [B__law_plain, Deed.args, few1, few3, ixD_tup, atI_0, atI_1, atI_2, eqD_str, c1, cc, cap3, done_eq]
    rw [show a.pl.d = .tup [.int a.p, a.w.pl.d, .int a.q] from rfl, hw]
    rfl
  | _ =>
    rw [hw] at c1
    simp only at c1
    rw [show a.pl.d = .tup [.int a.p, a.w.pl.d, .int a.q] from rfl, ad, hw]
    simp_arith only [B__law_plain, few1, few3, ixD_tup, atI_0, atI_1, atI_2, eqD_str, c1, done_eq]
    rfl
end SS
end

section
set_option Elab.async false
set_option linter.all false
set_option maxRecDepth 100000
set_option autoImplicit false
set_option maxHeartbeats 4000000
namespace SS
open PySem PySem.Spec PyProof.Rows L2 FL
/-! ## how long a shown text is at most -/
mutual
def sz : D → Nat
  | .non => 4
  | .int _ => 12
  | .str x => 10 * x.length + 2
  | .lst xs => szs xs + 3
  | .tup xs => szs xs + 3
  | _ => 0
def szs : List D → Nat
  | [] => 0
  | d :: ds => sz d + 2 + szs ds
end
mutual
def sm : D → Bool
  | .non => true
  | .int i => decide (i.natAbs < 10 ^ 10)
  | .str x => x.cps.toList.all fun c => decide (c < 1000)
  | .lst xs => sms xs
  | .tup xs => sms xs
  | _ => false
def sms : List D → Bool
  | [] => true
  | d :: ds => sm d && sms ds
end
theorem textFrom_le : ∀ (ts : List Str) (k : Nat) (acc : Str), (textFrom k acc ts).length ≤ acc.length + (ts.map fun t => t.length + 2).sum
  | [], k, acc => by show acc.length ≤ _; simp
  | t :: ts, k, acc => by
    have := textFrom_le ts (k + 1) (acc ++ (if k > 0 then ", " else "" : String) ++ t)
    have e : (acc ++ (if k > 0 then ", " else "" : String) ++ t).length ≤ acc.length + 2 + t.length := by
      rw [Str.length_append, Str.length_append]
      split
      · have : (Str.ofString ", ").length = 2 := by decide +kernel
        omega
      · have : (Str.ofString "").length = 0 := by decide +kernel
        omega
    show (textFrom (k + 1) _ ts).length ≤ _
    rw [List.map_cons, List.sum_cons]
    omega
theorem list_len (ts : List Str) : (listText ts).length ≤ (ts.map fun t => t.length + 2).sum + 3 := by
  unfold listText
  rw [Str.length_append]
  have := textFrom_le ts 0 "["
  have e1 : (Str.ofString "[").length = 1 := by decide +kernel
  have e2 : (Str.ofString "]").length = 1 := by decide +kernel
  omega
theorem sum_two : ∀ ts : List Str, (ts.map fun t => t.length + 2).sum = (ts.map (·.length)).sum + ts.length * 2
  | [] => rfl
  | t :: ts => by
    rw [List.map_cons, List.sum_cons, sum_two ts, List.map_cons, List.sum_cons, List.length_cons]
    omega
theorem tuple_len (ts : List Str) : (tupleText ts).length ≤ (ts.map fun t => t.length + 2).sum + 3 := by
  unfold tupleText
  rw [Str.length_append, Str.length_append, sum_two]
  have := StrLaws.join_length_le ", " ts
  have e1 : (Str.ofString "(").length = 1 := by decide +kernel
  have e3 : (Str.ofString ", ").length = 2 := by decide +kernel
  have e2 : (Str.ofString (if (ts.length == 1) = true then ",)" else ")")).length ≤ 2 := by
    split
    · have : (Str.ofString ",)").length = 2 := by decide +kernel
      omega
    · have : (Str.ofString ")").length = 1 := by decide +kernel
      omega
  rw [e3] at this
  omega
mutual
theorem shown_ok : ∀ d : D, nb d = true → sm d = true → (py d).showable = true ∧ (py d).shown.length ≤ sz d
  | .non, _, _ => ⟨rfl, by show (Str.ofString "None").length ≤ 4; decide +kernel⟩
  | .int i, _, h => by
    have hi : i.natAbs < 10 ^ 10 := of_decide_eq_true h
    refine ⟨?_, ?_⟩
    · show decide (i.natAbs.log2 < 1920) = true
      refine decide_eq_true ?_
      by_cases z : i.natAbs = 0
      · rw [z]; decide
      · exact (Nat.log2_lt z).mpr (Nat.lt_of_lt_of_le hi (by decide +kernel))
    · show (Str.ofString (toString i)).length ≤ 12
      rw [PySem.ofString_length]
      have := int_text_length_le10 (a := i) (k := 10) (by decide) hi
      omega
  | .str x, _, h => ⟨rfl, StrLaws.reprText_len x fun c hc => Nat.lt_of_lt_of_le (of_decide_eq_true (List.all_eq_true.mp h c hc)) (by decide)⟩
  | .lst xs, hn, h => by
    simp only [nb] at hn
    simp only [sm] at h
    obtain ⟨h1, h2⟩ := shown_oks xs hn h
    refine ⟨h1, ?_⟩
    show (listText (PyData.shownAll (pys xs))).length ≤ szs xs + 3
    exact Nat.le_trans (list_len _) (by omega)
  | .tup xs, hn, h => by
    simp only [nb] at hn
    simp only [sm] at h
    obtain ⟨h1, h2⟩ := shown_oks xs hn h
    refine ⟨h1, ?_⟩
    show (tupleText (PyData.shownAll (pys xs))).length ≤ szs xs + 3
    exact Nat.le_trans (tuple_len _) (by omega)
  | .bl _, h, _ => by simp [nb] at h
  | .dct _, h, _ => by simp [nb] at h
  | .ref _, h, _ => by simp [nb] at h
theorem shown_oks : ∀ ds : List D, nbs ds = true → sms ds = true → PyData.showableAll (pys ds) = true ∧ ((PyData.shownAll (pys ds)).map fun t => t.length + 2).sum ≤ szs ds
  | [], _, _ => ⟨rfl, Nat.le_refl _⟩
  | d :: ds, hn, h => by
    obtain ⟨a1, a2⟩ := Bool.and_eq_true_iff.mp (show (nb d && nbs ds) = true from hn)
    obtain ⟨b1, b2⟩ := Bool.and_eq_true_iff.mp (show (sm d && sms ds) = true from h)
    obtain ⟨c1, c2⟩ := shown_ok d a1 b1
    obtain ⟨d1, d2⟩ := shown_oks ds a2 b2
    refine ⟨?_, ?_⟩
    · show ((py d).showable && PyData.showableAll (pys ds)) = true
      rw [c1, d1]
      rfl
    · show (((py d).shown :: PyData.shownAll (pys ds)).map fun t => t.length + 2).sum ≤ sz d + 2 + szs ds
      rw [List.map_cons, List.sum_cons]
      omega
end
/-- plain, small and not long -/
structure Sh (n : Nat) (d : D) : Prop where
  pn : Pn d
  sm : sm d = true
  sz : sz d ≤ n
theorem repr_ok {n : Nat} {d : D} (h : Sh n d) (hn : n ≤ 1000000) : reprD [d] = some (.str (py d).shown) := by
  obtain ⟨h1, h2⟩ := shown_ok d h.pn.nb h.sm
  simp only [reprD, one, pyD_pn h.pn, Option.bind_some, reprP]
  rw [if_pos ⟨h1, by have := h.sz; omega⟩]
theorem sms_iff : ∀ ds : List D, sms ds = true ↔ ∀ d ∈ ds, sm d = true
  | [] => by simp [sms]
  | d :: ds => by simp [sms, sms_iff ds]
theorem szs_map {α : Type} (f : α → D) (n : Nat) : ∀ xs : List α, (∀ x ∈ xs, sz (f x) ≤ n) → szs (xs.map f) ≤ xs.length * (n + 2)
  | [], _ => by simp [szs]
  | x :: xs, h => by
    have h1 := h x List.mem_cons_self
    have h2 := szs_map f n xs fun y hy => h y (List.mem_cons_of_mem _ hy)
    rw [List.map_cons, szs, List.length_cons, Nat.succ_mul]
    omega
/-- small and at most so long -/
def Sz (n : Nat) (d : D) : Prop := sm d = true ∧ sz d ≤ n
theorem Sz.mono {n m : Nat} {d : D} (h : Sz n d) (hm : n ≤ m) : Sz m d := ⟨h.1, Nat.le_trans h.2 hm⟩
theorem sz_int {i : Int} (h : i.natAbs < 10 ^ 10) : Sz 12 (.int i) := ⟨decide_eq_true h, by simp [sz]⟩
theorem sz_str {x : Str} {n : Nat} (h : x.length ≤ n) (h2 : ∀ c ∈ x.cps.toList, c < 1000) : Sz (10 * n + 2) (.str x) := ⟨List.all_eq_true.mpr fun c hc => decide_eq_true (h2 c hc), by simp only [sz]; omega⟩
theorem sz_name {x : Str} (h : okN x) : Sz 82 (.str x) := sz_str h.2.1 fun c hc => by have := (h.2.2 c hc).2; omega
theorem sz_map {α : Type} (f : α → D) (n m : Nat) (xs : List α) (h : ∀ x ∈ xs, Sz n (f x)) (hm : xs.length ≤ m) : Sz (m * (n + 2) + 3) (.tup (xs.map f)) ∧ Sz (m * (n + 2) + 3) (.lst (xs.map f)) := by
  have a : sms (xs.map f) = true := (sms_iff _).mpr fun d hd => by
    obtain ⟨x, hx, rfl⟩ := List.mem_map.mp hd
    exact (h x hx).1
  have b := szs_map f n xs fun x hx => (h x hx).2
  have c : xs.length * (n + 2) ≤ m * (n + 2) := Nat.mul_le_mul_right _ hm
  exact ⟨⟨by simp only [sm]; exact a, by simp only [sz]; omega⟩, ⟨by simp only [sm]; exact a, by simp only [sz]; omega⟩⟩
theorem sz_tup2 {a b n m : Nat} {x y : D} (h1 : Sz a x) (h2 : Sz b y) : Sz (a + b + 7) (.tup [x, y]) ∧ Sz (a + b + 7) (.lst [x, y]) := by
  obtain ⟨a1, a2⟩ := h1
  obtain ⟨b1, b2⟩ := h2
  refine ⟨⟨by simp only [sm, sms, a1, b1, Bool.and_self], ?_⟩, ⟨by simp only [sm, sms, a1, b1, Bool.and_self], ?_⟩⟩ <;> simp only [sz, szs] <;> omega
theorem sz_tup3 {a b c : Nat} {x y z : D} (h1 : Sz a x) (h2 : Sz b y) (h3 : Sz c z) : Sz (a + b + c + 9) (.tup [x, y, z]) ∧ Sz (a + b + c + 9) (.lst [x, y, z]) := by
  obtain ⟨a1, a2⟩ := h1
  obtain ⟨b1, b2⟩ := h2
  obtain ⟨c1, c2⟩ := h3
  refine ⟨⟨by simp only [sm, sms, a1, b1, c1, Bool.and_self], ?_⟩, ⟨by simp only [sm, sms, a1, b1, c1, Bool.and_self], ?_⟩⟩ <;> simp only [sz, szs] <;> omega
theorem sz_word (w : Deed) : Sz 62 (.str w.word) := by
  refine sz_str (n := 6) ?_ ?_
  · cases w <;> (simp only [Deed.word]; decide +kernel)
  · cases w <;> (simp only [Deed.word]; decide +kernel)
theorem Pg.nameS {p : Pg} (ok : p.Ok) {s : Str} (h : p.hasS s) : okN s := by
  obtain ⟨q, hq, rfl⟩ := List.mem_map.mp h
  exact ok.namesS q hq
theorem sz_deed {p : Pg} (ok : p.Ok) {w : Deed} (h : p.okD w) : Sz 235 w.d := by
  have hw := sz_word w
  have two : ∀ {a b : Nat} {x y : D}, w.args = [x, y] → Sz a x → Sz b y → a + b ≤ 164 → Sz 235 w.d := fun e h1 h2 hl => by
    unfold Deed.d
    rw [e]
    exact (sz_tup3 hw h1 h2).1.mono (by omega)
  have one' : ∀ {a : Nat} {x : D}, w.args = [x] → Sz a x → a ≤ 82 → Sz 235 w.d := fun e h1 hl => by
    unfold Deed.d
    rw [e]
    exact (sz_tup2 (n := 0) (m := 0) hw h1).1.mono (by omega)
  have nS : ∀ s, p.hasS s → Sz 82 (.str s) := fun s hs => sz_name (Pg.nameS ok hs)
  have nI : ∀ n : Int, 0 ≤ n → n ≤ 100 → Sz 12 (.int n) := fun n h1 h2 => sz_int (by omega)
  cases w with
  | rise c n => exact two rfl (sz_name (ok.namesC c h.1)) (nI n h.2.1 h.2.2) (by omega)
  | spare c n => exact two rfl (sz_name (ok.namesC c h.1)) (nI n h.2.1 h.2.2) (by omega)
  | keep s => exact one' rfl (nS s h) (by omega)
  | same s => exact one' rfl (nS s h) (by omega)
  | other s => exact one' rfl (nS s h) (by omega)
  | copy s t => exact two rfl (nS s h.1) (nS t h.2) (by omega)
  | agree s t => exact two rfl (nS s h.1) (nS t h.2) (by omega)
  | differ s t => exact two rfl (nS s h.1) (nS t h.2) (by omega)
  | newer s t => exact two rfl (nS s h.1) (nS t h.2) (by omega)
  | elder s t => exact two rfl (nS s h.1) (nS t h.2) (by omega)
  | doo x => exact one' rfl (sz_name h) (by omega)
theorem sz_arw {p : Pg} (ok : p.Ok) {a : Arw} (h : p.okD a.w ∧ 0 ≤ a.p ∧ a.p ≤ 100 ∧ 0 ≤ a.q ∧ a.q ≤ 100) : Sz 268 a.d :=
  (sz_tup3 (sz_int (i := a.p) (by omega)) (sz_deed ok h.1) (sz_int (i := a.q) (by omega))).1
theorem sh_pg {p : Pg} (ok : p.Ok) : Sh 300000 p.d := by
  have hc := (sz_map D.str 82 10 p.cs (fun c hc => sz_name (ok.namesC c hc)) ok.lenC).1
  have hs := (sz_map slotD 171 10 p.ss (fun s hs => (sz_tup2 (n := 0) (m := 0) (sz_name (ok.namesS s hs)) (sz_name (ok.namesC _ (ok.own s hs)))).1) ok.lenS).1
  have hp := (sz_map partyD 27092 10 p.ps (fun q hq => (sz_tup2 (n := 0) (m := 0) (sz_name (ok.names q hq)) (sz_map Arw.d 268 100 q.2 (fun a ha => sz_arw ok (ok.deeds q hq a ha)) (ok.lenA q hq)).1).1.mono (by omega)) ok.lenP).1
  obtain ⟨h1, h2⟩ := (sz_tup3 hc hs hp).1
  exact ⟨(pk_pg p).pn (by omega), h1, Nat.le_trans h2 (by omega)⟩
end SS
end

section
set_option Elab.async false
set_option linter.all false
set_option maxRecDepth 100000
set_option autoImplicit false
set_option maxHeartbeats 4000000
namespace SS
open PySem PySem.Spec PyProof.Rows L2 FL
local macro_rules
  | `(tactic| simp_arith only [$xs,*]) => `(tactic| simp (config := { implicitDefEqProofs := false }) only [tn_ok, oR_some, nx_ok, ev_var, ev_c, ev_bin, ev_kBin1, ev_kBin2, ev_un, ev_kUn, ev_asB, ev_kB, ev_asT, ev_kT, ev_tAnd2, ev_kAndT, ev_kAndF, ev_tOr2, ev_kOrT, ev_kOrF, ev_not, ev_kNot, ev_eAnd2, ev_kAndE, ev_kAndET, ev_kAndEF, ev_eOr2, ev_kOrE, ev_kOrET, ev_kOrEF, ev_eNot1, ev_kNotE, ev_kNotE2, ev_if, ev_kIfT, ev_kIfF, ev_aNil, ev_aCons, ev_kCons, ev_kCons2, ev_aStar, ev_kStar, ev_kStar2, ev_kStar3, ev_eTup, ev_kTup, ev_kTup2, ev_eLst, ev_kLst, ev_kLst2, ev_eNewL, ev_kNewL, ev_kNewL2, ev_newD, ev_callP, ev_kCallP, ev_call, ev_kCall, ev_kCall2, ev_oNone, ev_oSome, ev_kO, ev_kO2, ev_sl, ev_kSl, ev_kSl2, ev_kSl3, ev_meth, ev_kM, ev_kM2, ev_kM3, ev_meth0, ev_kM0, ev_chain, ev_kCh, ev_kCh2, ev_kCh3T, ev_kCh3F, ev_kCh4, ev_kLs, ev_kComp, ev_comp, ev_kRef, ev_compM, ev_kComp2, ev_comp2, ev_iSeq, ev_kIt, ev_iRange, ev_kRg, ev_enT, ev_enL, ev_iEnum, items_lst, items_tup, items_str, ev_true, ev_ret, ev_kRet, ev_expr, ev_kEx, ev_asg, ev_kAsg, ev_kNx, ev_seq, ev_kSeqN, ev_kSeqR, ev_kSeqB, ev_kSeqC, ev_ifS, ev_kIfST, ev_kIfSF, ev_for, ev_kFor, ev_next, ev_retN, ev_break, ev_cont, ev_par, ev_kPar, ev_par3, ev_kPar3, ev_gName, ev_gTup, ev_gsNil, ev_gsCons, ev_kGs, ev_gSub, ev_kSub, ev_kSub2, ev_kSub3, ev_kSub4, ev_mut, ev_kMu, ev_kMu2, ev_kMu3, ev_kMu4, ev_catM, ev_kCat, ev_kCat2, ev_catR, vw_non, vw_bl, vw_int, vw_str, vw_lst, vw_tup, vw_dct, vw_ref, vwO_lst, vwO_dct, tru_bl, tru_int, tru_lst, tru_tup, tru_non, add_int, add_lst, add_tup, add_str, sub_int, neg_int, gt_int, ge_int, lt_int, le_int, len_lst, len_tup, len_dct, len_str, int_int, tuple_lst, tuple_tup, list_lst, list_tup, sl_lst, sl_tup, is_non, isnt_non, non_bl, non_int, non_str, non_lst, non_tup, non_non, int_int?, ref_ref?, alt_tup, alt_lst, isi_int_non, isi_int_bl, isi_int_int, isi_int_str, isi_int_lst, isi_int_tup, isi_bool_non, isi_bool_bl, isi_bool_int, isi_bool_str, isi_bool_lst, isi_bool_tup, isi_str_non, isi_str_bl, isi_str_int, isi_str_str, isi_str_lst, isi_str_tup, isi_tuple_non, isi_tuple_bl, isi_tuple_int, isi_tuple_str, isi_tuple_lst, isi_tuple_tup, isi_list_non, isi_list_bl, isi_list_int, isi_list_str, isi_list_lst, isi_list_tup, isi_dict_non, isi_dict_bl, isi_dict_int, isi_dict_str, isi_dict_lst, isi_dict_tup, tyIn_lst2, tyD_lst, tyIn_tup2, tyD_tup, tyIn_str, tyD_str, tyIn_dct, tyD_dct, ev_cStep, ev_kC, ev_kC2T, ev_kC2F, ev_kSome, ev_cStep2, ev_kD, ev_kD2T, ev_kD2F, ev_kD3, ev_lStep, ev_kL, List.getElem?_cons_zero, List.getElem?_cons_succ, Option.join_some, Option.bind_some, Option.map_some, wipeE, List.set_cons_zero, List.set_cons_succ, List.length_cons, List.length_nil, List.map_cons, List.map_nil, gAll, gDef, List.cons_append, List.nil_append, if_true, if_false, Bool.not_true, Bool.not_false, Nat.zero_add, Nat.reduceAdd, Nat.reduceLeDiff, and_true, and_self, true_and, reduceIte, Bool.false_eq_true, $xs,*])
theorem vw_arw (S : Sto) (a : Arw) : vw S a.d = a.d := rfl
theorem vw_deed (S : Sto) (a : Deed) : vw S a.d = a.d := rfl
theorem vw_pg (S : Sto) (a : Pg) : vw S a.d = a.d := rfl
theorem vw_st (S : Sto) (a : St) : vw S a.d = a.d := rfl
theorem vw_ev (S : Sto) (a : Ev) : vw S (evD a) = evD a := rfl
theorem vw_ints (S : Sto) (a : List Int) : vw S (intsD a) = intsD a := rfl
/-! ## one arrow more -/
def Pg.grow (p : Pg) (v : Nat) (q : Str × List Arw) (a : Arw) : Pg := ⟨p.cs, p.ss, p.ps.set v (q.1, q.2 ++ [a])⟩
theorem grow_ok {p : Pg} (ok : p.Ok) {v : Nat} {q : Str × List Arw} (hq : p.ps[v]? = some q) (hl : q.2.length ≤ 9) {a : Arw} (ha : p.okD a.w ∧ 0 ≤ a.p ∧ a.p ≤ 100 ∧ 0 ≤ a.q ∧ a.q ≤ 100) : (p.grow v q a).Ok := by
  have hv := (List.getElem?_eq_some_iff.mp hq).1
  have qm := List.mem_of_getElem? hq
  have nm : (p.ps.set v (q.1, q.2 ++ [a])).map (·.1) = p.ps.map (·.1) := by
    rw [List.map_set]
    apply List.ext_getElem?
    intro j
    by_cases e : v = j
    · subst e
      rw [List.getElem?_set_self (by simpa using hv), List.getElem?_map, hq]
      rfl
    · rw [List.getElem?_set_ne e]
  have mem : ∀ t ∈ p.ps.set v (q.1, q.2 ++ [a]), t ∈ p.ps ∨ t = (q.1, q.2 ++ [a]) := fun t ht => List.mem_or_eq_of_mem_set ht
  refine ⟨?_, ok.ndS, ok.ndC, ok.own, ?_, ?_, ok.namesS, ok.namesC, ?_, ok.lenS', ok.lenC', ?_⟩
  · show ((p.ps.set v (q.1, q.2 ++ [a])).map (·.1)).Nodup
    rw [nm]
    exact ok.ndP
  · intro t ht b hb
    have mono : ∀ w : Deed, p.okD w → (p.grow v q a).okD w := fun w h => okD_mono (fun c hc => hc) (fun s hs => hs) h
    rcases mem t ht with h | rfl
    · obtain ⟨h1, h2⟩ := ok.deeds t h b hb
      exact ⟨mono _ h1, h2⟩
    · rcases List.mem_append.mp hb with hb | hb
      · obtain ⟨h1, h2⟩ := ok.deeds q qm b hb
        exact ⟨mono _ h1, h2⟩
      · rw [List.mem_singleton] at hb
        subst hb
        exact ⟨mono _ ha.1, ha.2⟩
  · intro t ht
    rcases mem t ht with h | rfl
    · exact ok.names t h
    · exact ok.names q qm
  · show (p.ps.set v (q.1, q.2 ++ [a])).length ≤ 3
    rw [List.length_set]
    exact ok.lenP'
  · intro t ht
    rcases mem t ht with h | rfl
    · exact ok.lenA' t h
    · simp only [List.length_append, List.length_singleton]
      omega
def SpGrown (F : Fn) : Prop := ∀ (S : Sto) (i n m : Nat) (p : Pg), Tp S i n → n + 6 ≤ 100000 → p.Ok → 0 < m → m ≤ 100 → ∃ (p' : Pg) (S' : Sto), p'.Ok ∧ F [.ref i, p.d, .int (m : Nat)] S = .ok p'.d S' ∧ Ch S S' i (n + 6)
theorem cap_of {α : Type} {n : Nat} (a : α) (h : n ≤ 1000000) : cap n a = some a := cap_ok h
theorem pn_partyT (xs : List (Str × List Arw)) : Pn (.tup (xs.map partyD)) := (pk_parties xs).pn (by omega)
open Classical in
theorem law_grown_ok {F1 F2 F3 : Fn} (h1 : SpDeed F1) (h2 : SpDraw F2) (h3 : SpPlain F3) : SpGrown (dBody false 8 (B__law_grown F1 F2 F3)) := by
  intro S i n m p ht hn ok hm hm2
  have key : ∃ (p' : Pg) (S' : Sto), p'.Ok ∧ B__law_grown F1 F2 F3 [some (.ref i), some p.d, some (.int (m : Nat)), none, none, none, none, none] S = .ok (.rt p'.d) S' ∧ Ch S S' i (n + 6) := by
    have q0 := eq_nilT (pn_partyT p.ps)
    rw [isE_map] at q0
    cases hp : p.ps.isEmpty with
    | true =>
      rw [hp] at q0
      refine ⟨p, S, ok, ?_, (Ch.refl ht).mono (by omega)⟩
      rw [pgD]
      simp_arith only [B__law_grown, few0, ixD_tup, atI_2, q0]
    | false =>
      rw [hp] at q0
      have hne : p.ps ≠ [] := by simpa using hp
      have hpos : 0 < p.ps.length := List.length_pos_iff.mpr hne
      have lp := ok.lenP
      have lm : (p.ps.map partyD).length = p.ps.length := List.length_map ..
      obtain ⟨v, S1, hv, e1, c1⟩ := h2 S i n (p.ps.map partyD).length ht (by omega) (by omega) (by omega)
      rw [lm] at hv
      have gq : p.ps[v]? = some p.ps[v] := List.getElem?_eq_getElem hv
      obtain ⟨q, hq⟩ : ∃ q, q = p.ps[v] := ⟨_, rfl⟩
      rw [← hq] at gq
      have gd : (p.ps.map partyD)[v]? = some (.tup [.str q.1, .tup (q.2.map Arw.d)]) := by rw [List.getElem?_map, gq]; rfl
      obtain ⟨a1, S2, ha1, e2, c2⟩ := h2 S1 i (n + 1) m c1.tp (by omega) hm (by omega)
      obtain ⟨w, S3, hw, e3, c3⟩ := h1 S2 i (n + 1 + 1) p c2.tp (by omega) ok
      obtain ⟨a2, S4, ha2, e4, c4⟩ := h2 S3 i (n + 1 + 1 + 3) m c3.tp (by omega) hm (by omega)
      have ch := ((c1.trans c2).trans c3).trans c4
      obtain ⟨aw, haw⟩ : ∃ aw : Arw, aw = ⟨(a1 : Nat), w, (a2 : Nat)⟩ := ⟨_, rfl⟩
      have awd : aw.d = .tup [.int (a1 : Nat), w.d, .int (a2 : Nat)] := by rw [haw]; rfl
      have okA : p.okD aw.w ∧ 0 ≤ aw.p ∧ aw.p ≤ 100 ∧ 0 ≤ aw.q ∧ aw.q ≤ 100 := by rw [haw]; exact ⟨hw, by simp only; omega, by simp only; omega, by simp only; omega, by simp only; omega⟩
      have qm := List.mem_of_getElem? gq
      have la := ok.lenA q qm
      have rp := repr_ok (sh_pg ok) (by omega)
      have h3a := h3 aw
      rw [awd] at h3a
      have pkl : Pn (.lst (q.2.map fun a => a.pl.d)) := (pk_lst (n := 2) fun d hd => by
        obtain ⟨x, _, rfl⟩ := List.mem_map.mp hd
        exact pk_arw x.pl).pn (by omega)
      have ind := inD_pn (e := aw.pl.d) (.inl rfl) pkl ((pk_arw aw.pl).pn (by omega))
      obtain ⟨bi, hbi⟩ : ∃ bi, bi = decide (aw.pl.d ∈ q.2.map fun a => a.pl.d) := ⟨_, rfl⟩
      rw [← hbi] at ind
      obtain ⟨tx, htx⟩ : ∃ tx, tx = (py p.d).shown := ⟨_, rfl⟩
      rw [← htx] at rp
      have cnt : countD (.str tx) [.str "spare"] = some (.int (Txt.count tx "spare")) := rfl
      obtain ⟨ct, hct⟩ : ∃ ct, ct = Txt.count tx "spare" := ⟨_, rfl⟩
      rw [← hct] at cnt
      have lq : (q.2.map Arw.d).length = q.2.length := List.length_map ..
      rw [pgD] at e3 rp ⊢
      have cp := fun (x0 x2 x3 x4 : Option D) => compD_map (b := gName' 7) (t := tTrue) (e := eCall 1 0 gAll F3 (aCons (eVar 7) aNil) aNil) Arw.d (fun a => a.pl.d)
        (r0 := [x0, some (.tup [.tup (p.cs.map D.str), .tup (p.ss.map slotD), .tup (p.ps.map partyD)]), x2, x3, x4, some (.tup (q.2.map Arw.d)), some (.tup [.int (a1 : Nat), w.d, .int (a2 : Nat)]), none]) (S := S4) q.2 (fun a ha => by
          have := h3 a S4
          rw [show a.d = .tup [.int a.p, a.w.d, .int a.q] from rfl] at this ⊢
          simp_arith only [this]) (by omega)
      by_cases b1 : (5 : Int) < ((q.2.map Arw.d).length : Int)
      · refine ⟨p, S4, ok, ?_, ch.mono (by omega)⟩
        rw [pgD]
        simp_arith only [B__law_grown, few0, few3, ixD_tup, atI_2, q0, e1, atI_nat gd, e2, e3, e4, decide_eq_true b1]
      by_cases b2 : (5 : Int) < ct
      · refine ⟨p, S4, ok, ?_, ch.mono (by omega)⟩
        rw [pgD]
        simp_arith only [B__law_grown, few0, few3, ixD_tup, atI_2, q0, e1, atI_nat gd, e2, e3, e4, decide_eq_false b1, rp, cnt, decide_eq_true b2]
      cases bi with
      | true =>
        refine ⟨p, S4, ok, ?_, ch.mono (by omega)⟩
        rw [pgD]
        simp_arith only [B__law_grown, few0, few3, ixD_tup, atI_2, q0, e1, atI_nat gd, e2, e3, e4, decide_eq_false b1, rp, cnt, decide_eq_false b2, h3a S4, cp, vw_arw, ind]
      | false =>
        refine ⟨p.grow v q aw, S4, grow_ok ok gq (by rw [lq] at b1; omega) okA, ?_, ch.mono (by omega)⟩
        have t2 : cutL [D.tup (p.cs.map D.str), .tup (p.ss.map slotD), .tup (p.ps.map partyD)] none (some 2) = [.tup (p.cs.map D.str), .tup (p.ss.map slotD)] := cut_take _ 2 (by simp)
        have tv : cutL (p.ps.map partyD) none (some (v : Nat)) = (p.ps.map partyD).take v := cut_take _ v (by rw [lm]; omega)
        have v1 : ((v : Nat) : Int) + 1 = ((v + 1 : Nat) : Int) := by omega
        have dv : cutL (p.ps.map partyD) (some ((v + 1 : Nat) : Int)) none = (p.ps.map partyD).drop (v + 1) := cut_drop _ (v + 1) (by rw [lm]; omega)
        have ca : cap ((q.2.map Arw.d).length + 1) (D.tup (q.2.map Arw.d ++ [.tup [.int (a1 : Nat), w.d, .int (a2 : Nat)]])) = some (D.tup (q.2.map Arw.d ++ [.tup [.int (a1 : Nat), w.d, .int (a2 : Nat)]])) := cap_ok (by rw [lq]; omega)
        have l1 : ((p.ps.map partyD).take v).length ≤ 10 := by rw [List.length_take, lm]; omega
        have l2 : ((p.ps.map partyD).drop (v + 1)).length ≤ 10 := by rw [List.length_drop, lm]; omega
        have cb := fun (d : D) => cap_of (n := ((p.ps.map partyD).take v).length + 1) d (by omega)
        have cc := fun (x d : D) => cap_of (n := ((p.ps.map partyD).take v ++ [x]).length + ((p.ps.map partyD).drop (v + 1)).length) d (by rw [List.length_append]; simp only [List.length_singleton]; omega)
        have fin : (p.ps.map partyD).take v ++ [.tup [.str q.1, .tup (q.2.map Arw.d ++ [.tup [.int (a1 : Nat), w.d, .int (a2 : Nat)]])]] ++ (p.ps.map partyD).drop (v + 1) = (p.ps.set v (q.1, q.2 ++ [aw])).map partyD := by
          rw [List.append_assoc, List.singleton_append, set_split _ _ _ (by rw [lm]; exact hv), List.map_set]
          congr 1
          show _ = partyD (q.1, q.2 ++ [aw])
          unfold partyD
          simp only [List.map_append, List.map_cons, List.map_nil, awd]
        have pd : (p.grow v q aw).d = .tup [.tup (p.cs.map D.str), .tup (p.ss.map slotD), .tup ((p.ps.set v (q.1, q.2 ++ [aw])).map partyD)] := rfl
        rw [pd, ← fin]
        simp_arith only [B__law_grown, few0, few1, few2, few3, ixD_tup, atI_2, q0, e1, atI_nat gd, e2, e3, e4, decide_eq_false b1, rp, cnt, decide_eq_false b2, h3a S4, cp, vw_arw, ind, t2, tv, v1, dv, ca, cb, cc, cap3]
  obtain ⟨p', S', k1, k2, k3⟩ := key
  refine ⟨p', S', k1, ?_, k3⟩
  show doneR false S (B__law_grown F1 F2 F3 [some (.ref i), some p.d, some (.int (m : Nat)), none, none, none, none, none] S) = _
  rw [k2]
  exact done_rt S S' _ k3.len
end SS
end

section
set_option Elab.async false
set_option linter.all false
set_option maxRecDepth 100000
set_option autoImplicit false
set_option maxHeartbeats 4000000
namespace SS
open PySem PySem.Spec PyProof.Rows L2 FL
local macro_rules
  | `(tactic| simp_arith only [$xs,*]) => `(tactic| simp (config := { implicitDefEqProofs := false }) only [tn_ok, oR_some, nx_ok, ev_var, ev_c, ev_bin, ev_kBin1, ev_kBin2, ev_un, ev_kUn, ev_asB, ev_kB, ev_asT, ev_kT, ev_tAnd2, ev_kAndT, ev_kAndF, ev_tOr2, ev_kOrT, ev_kOrF, ev_not, ev_kNot, ev_eAnd2, ev_kAndE, ev_kAndET, ev_kAndEF, ev_eOr2, ev_kOrE, ev_kOrET, ev_kOrEF, ev_eNot1, ev_kNotE, ev_kNotE2, ev_if, ev_kIfT, ev_kIfF, ev_aNil, ev_aCons, ev_kCons, ev_kCons2, ev_aStar, ev_kStar, ev_kStar2, ev_kStar3, ev_eTup, ev_kTup, ev_kTup2, ev_eLst, ev_kLst, ev_kLst2, ev_eNewL, ev_kNewL, ev_kNewL2, ev_newD, ev_callP, ev_kCallP, ev_call, ev_kCall, ev_kCall2, ev_oNone, ev_oSome, ev_kO, ev_kO2, ev_sl, ev_kSl, ev_kSl2, ev_kSl3, ev_meth, ev_kM, ev_kM2, ev_kM3, ev_meth0, ev_kM0, ev_chain, ev_kCh, ev_kCh2, ev_kCh3T, ev_kCh3F, ev_kCh4, ev_kLs, ev_kComp, ev_comp, ev_kRef, ev_compM, ev_kComp2, ev_comp2, ev_iSeq, ev_kIt, ev_iRange, ev_kRg, ev_enT, ev_enL, ev_iEnum, items_lst, items_tup, items_str, ev_true, ev_ret, ev_kRet, ev_expr, ev_kEx, ev_asg, ev_kAsg, ev_kNx, ev_seq, ev_kSeqN, ev_kSeqR, ev_kSeqB, ev_kSeqC, ev_ifS, ev_kIfST, ev_kIfSF, ev_for, ev_kFor, ev_next, ev_retN, ev_break, ev_cont, ev_par, ev_kPar, ev_par3, ev_kPar3, ev_gName, ev_gTup, ev_gsNil, ev_gsCons, ev_kGs, ev_gSub, ev_kSub, ev_kSub2, ev_kSub3, ev_kSub4, ev_mut, ev_kMu, ev_kMu2, ev_kMu3, ev_kMu4, ev_catM, ev_kCat, ev_kCat2, ev_catR, vw_non, vw_bl, vw_int, vw_str, vw_lst, vw_tup, vw_dct, vw_ref, vwO_lst, vwO_dct, tru_bl, tru_int, tru_lst, tru_tup, tru_non, add_int, add_lst, add_tup, add_str, sub_int, neg_int, gt_int, ge_int, lt_int, le_int, len_lst, len_tup, len_dct, len_str, int_int, tuple_lst, tuple_tup, list_lst, list_tup, sl_lst, sl_tup, is_non, isnt_non, non_bl, non_int, non_str, non_lst, non_tup, non_non, int_int?, ref_ref?, alt_tup, alt_lst, isi_int_non, isi_int_bl, isi_int_int, isi_int_str, isi_int_lst, isi_int_tup, isi_bool_non, isi_bool_bl, isi_bool_int, isi_bool_str, isi_bool_lst, isi_bool_tup, isi_str_non, isi_str_bl, isi_str_int, isi_str_str, isi_str_lst, isi_str_tup, isi_tuple_non, isi_tuple_bl, isi_tuple_int, isi_tuple_str, isi_tuple_lst, isi_tuple_tup, isi_list_non, isi_list_bl, isi_list_int, isi_list_str, isi_list_lst, isi_list_tup, isi_dict_non, isi_dict_bl, isi_dict_int, isi_dict_str, isi_dict_lst, isi_dict_tup, tyIn_lst2, tyD_lst, tyIn_tup2, tyD_tup, tyIn_str, tyD_str, tyIn_dct, tyD_dct, ev_cStep, ev_kC, ev_kC2T, ev_kC2F, ev_kSome, ev_cStep2, ev_kD, ev_kD2T, ev_kD2F, ev_kD3, ev_lStep, ev_kL, List.getElem?_cons_zero, List.getElem?_cons_succ, Option.join_some, Option.bind_some, Option.map_some, wipeE, List.set_cons_zero, List.set_cons_succ, List.length_cons, List.length_nil, List.map_cons, List.map_nil, gAll, gDef, List.cons_append, List.nil_append, if_true, if_false, Bool.not_true, Bool.not_false, Nat.zero_add, Nat.reduceAdd, Nat.reduceLeDiff, and_true, and_self, true_and, reduceIte, Bool.false_eq_true, $xs,*])
/-! ## a drawn program -/
def cutC (cs : List Nat) (k : Nat) : Str := ⟨(cs.take k).toArray⟩
theorem cutC_l (cs : List Nat) (k : Nat) : (cutC cs k).cps.toList = cs.take k := by simp [cutC]
theorem sl_str {x : Str} {cs : List Nat} (h : x.cps.toList = cs) (hl : x.length ≤ 1000000) (k : Nat) : slD (.str x) none (some (k : Nat)) = some (.str (cutC cs k)) := by
  have e : cutS x none (some (k : Nat)) = cutC cs k := by
    unfold cutS cutC
    have lx : x.length = cs.length := by rw [← h]; rfl
    rw [HT.sIx_none, show HT.sIx x.length x.length (some ((k : Nat) : Int)) = min k x.length from HT.sIx_nat x.length x.length k, List.drop_zero, Nat.sub_zero, h, lx]
    congr 2
    rw [List.take_eq_take_iff]
    omega
  simp only [slD, alt, on1, D.lst?, D.tup?, D.str?, e, cap_ok hl]
theorem free_slots {F3 : Fn} (h3 : SpPick F3) {nm : Nat → Str} {cl : List Str} (hc : cl ≠ []) (hcl : cl.length ≤ 10) {i : Nat} {x3 x4 x5 x6 x7 : Option D} : ∀ (cs : List Nat) (acc : List D) (S : Sto) (n : Nat), (∀ c ∈ cs, c ∈ codes) → Tp S i n → n + cs.length ≤ 100000 → acc.length + cs.length ≤ 1000 → ∃ (ss : List (Str × Str)) (S' : Sto), ss.map (·.1) = cs.map nm ∧ (∀ s ∈ ss, s.2 ∈ cl) ∧
    compD (gName' 8) tTrue (eTup (aCons (eBin ixD (eVar 1) (eVar 8)) (aCons (eCall 2 0 gAll F3 (aCons (eVar 0) (aCons (eVar 2) aNil)) aNil) aNil))) [some (.ref i), some (.dct (tabKV nm)), some (.lst (cl.map D.str)), x3, x4, x5, x6, x7, none] (cs.map fun c => D.str ⟨#[c]⟩) acc S = .ok (acc ++ ss.map slotD) S' ∧ Ch S S' i (n + cs.length)
  | [], acc, S, n, _, ht, _, _ => ⟨[], S, rfl, (by intro s h; cases h), (by simp [compD, FL.ret]), Ch.refl ht⟩
  | c :: cs, acc, S, n, hm, ht, hn, hl => by
    rw [List.length_cons] at hn hl
    obtain ⟨x, S1, hx, e1, c1⟩ := pick_strs h3 (xs := cl) true ht (by omega) hc (by omega)
    simp only [if_true] at e1
    obtain ⟨ss, S', r1, r2, r3, r4⟩ := free_slots h3 (nm := nm) hc hcl (x3 := x3) (x4 := x4) (x5 := x5) (x6 := x6) (x7 := x7) cs (acc ++ [slotD (nm c, x)]) S1 (n + 1) (fun d hd => hm d (List.mem_cons_of_mem _ hd)) c1.tp (by omega) (by rw [List.length_append, List.length_singleton]; omega)
    refine ⟨(nm c, x) :: ss, S', by rw [List.map_cons, r1, List.map_cons], ?_, ?_, c1.trans (r4.mono (by rw [List.length_cons]; omega))⟩
    · intro s hs
      rcases List.mem_cons.mp hs with rfl | hs
      · exact hx
      · exact r2 s hs
    · have lk := look_tab (nm := nm) (hm c List.mem_cons_self)
      unfold ch1 at lk
      have st : cStep (gName' 8) tTrue (eTup (aCons (eBin ixD (eVar 1) (eVar 8)) (aCons (eCall 2 0 gAll F3 (aCons (eVar 0) (aCons (eVar 2) aNil)) aNil) aNil))) [some (.ref i), some (.dct (tabKV nm)), some (.lst (cl.map D.str)), x3, x4, x5, x6, x7, none] (.str ⟨#[c]⟩) S = .ok (some (slotD (nm c, x))) S1 := by
        simp_arith only [look_ix, lk, e1, few2, slotD]
      rw [List.map_cons, compD_cons]
      simp only [bnd, st]
      rw [if_pos (by omega), r3, List.map_cons]
      simp
theorem free_loop {F2 : Fn} (h2 : SpGrown F2) {i m : Nat} (hm : 0 < m) (hm2 : m ≤ 100) {x1 x2 x3 x4 x8 : Option D} : ∀ (ks : List Nat) (p : Pg) (S : Sto) (n : Nat) (x7 : Option D), p.Ok → Tp S i n → n + 6 * ks.length ≤ 100000 → ∃ (p' : Pg) (S' : Sto) (y7 : Option D), p'.Ok ∧ Ch S S' i (n + 6 * ks.length) ∧
    loopD (gName' 7) (sAsg (eCall 3 0 gAll F2 (aCons (eVar 0) (aCons (eVar 5) (aCons (eVar 6) aNil))) aNil) (gName' 5)) (ks.map fun k : Nat => D.int (k : Nat)) [some (.ref i), x1, x2, x3, x4, some p.d, some (.int (m : Nat)), x7, x8] S = .ok (.nx [some (.ref i), x1, x2, x3, x4, some p'.d, some (.int (m : Nat)), y7, x8]) S'
  | [], p, S, n, x7, ok, ht, _ => ⟨p, S, x7, ok, Ch.refl ht, rfl⟩
  | k :: ks, p, S, n, x7, ok, ht, hn => by
    rw [List.length_cons] at hn
    obtain ⟨p1, S1, ok1, e1, c1⟩ := h2 S i n m p ht (by omega) ok hm hm2
    obtain ⟨p', S', y7, r1, r2, r3⟩ := free_loop h2 hm hm2 (x1 := x1) (x2 := x2) (x3 := x3) (x4 := x4) (x8 := x8) ks p1 S1 (n + 6) (some (.int (k : Nat))) ok1 c1.tp (by omega)
    refine ⟨p', S', y7, r1, c1.trans (r2.mono (by rw [List.length_cons]; omega)), ?_⟩
    have st : lStep (gName' 7) (sAsg (eCall 3 0 gAll F2 (aCons (eVar 0) (aCons (eVar 5) (aCons (eVar 6) aNil))) aNil) (gName' 5)) (.int (k : Nat)) [some (.ref i), x1, x2, x3, x4, some p.d, some (.int (m : Nat)), x7, x8] S = .ok (.nx [some (.ref i), x1, x2, x3, x4, some p1.d, some (.int (m : Nat)), some (.int (k : Nat)), x8]) S1 := by
      simp_arith only [e1]
    rw [List.map_cons, loopD_step st]
    exact r3
theorem free_pg {nm : Nat → Str} (tb : TabOk nm) {k1 k2 k3 : Nat} {ss : List (Str × Str)} (h1 : ss.map (·.1) = ([115, 116, 117, 118].take k2).map nm) (h2 : ∀ s ∈ ss, s.2 ∈ ([99, 100].take k1).map nm) :
    Pg.Ok ⟨([99, 100].take k1).map nm, ss, ([112, 113, 114].take k3).map fun c => (nm c, [])⟩ := by
  have ep : (([112, 113, 114].take k3).map fun c => ((nm c, []) : Str × List Arw)).map (·.1) = ([112, 113, 114].take k3).map nm := by rw [List.map_map]; rfl
  have hS : ∀ c ∈ [115, 116, 117, 118].take k2, c ∈ codes := fun c hc => by
    have := List.mem_of_mem_take hc
    revert this
    unfold codes
    simp only [List.mem_cons, List.not_mem_nil, or_false]
    omega
  have hC : ∀ c ∈ [99, 100].take k1, c ∈ codes := fun c hc => by
    have := List.mem_of_mem_take hc
    revert this
    unfold codes
    simp only [List.mem_cons, List.not_mem_nil, or_false]
    omega
  have hP : ∀ c ∈ [112, 113, 114].take k3, c ∈ codes := fun c hc => by
    have := List.mem_of_mem_take hc
    revert this
    unfold codes
    simp only [List.mem_cons, List.not_mem_nil, or_false]
    omega
  refine ⟨?_, ?_, ?_, h2, ?_, ?_, ?_, ?_, ?_, ?_, ?_, ?_⟩
  · simp only; rw [ep]; exact nodup_take tb.ps k3
  · simp only; rw [h1]; exact nodup_take tb.ss k2
  · exact nodup_take tb.cs k1
  · intro q hq a ha
    obtain ⟨c, _, rfl⟩ := List.mem_map.mp hq
    cases ha
  · intro q hq
    obtain ⟨c, hc, rfl⟩ := List.mem_map.mp hq
    exact tb.ok c (hP c hc)
  · intro q hq
    have : q.1 ∈ ss.map (·.1) := List.mem_map.mpr ⟨q, hq, rfl⟩
    rw [h1] at this
    obtain ⟨c, hc, e⟩ := List.mem_map.mp this
    rw [← e]
    exact tb.ok c (hS c hc)
  · intro q hq
    obtain ⟨c, hc, rfl⟩ := List.mem_map.mp hq
    exact tb.ok c (hC c hc)
  · simp only [List.length_map, List.length_take, List.length_cons, List.length_nil]; omega
  · have := congrArg List.length h1
    simp only [List.length_map, List.length_take, List.length_cons, List.length_nil] at this ⊢
    omega
  · simp only [List.length_map, List.length_take, List.length_cons, List.length_nil]; omega
  · intro q hq
    obtain ⟨c, _, rfl⟩ := List.mem_map.mp hq
    simp
def SpFree (F : Fn) : Prop := ∀ (S : Sto) (i n : Nat) (nm : Nat → Str), Tp S i n → n + 200 ≤ 100000 → TabOk nm → ∃ (p : Pg) (S' : Sto), p.Ok ∧ F [.ref i, .dct (tabKV nm)] S = .ok p.d S' ∧ Ch S S' i (n + 200)
theorem law_free_ok {F1 F2 F3 : Fn} (h1 : SpDraw F1) (h2 : SpGrown F2) (h3 : SpPick F3) : SpFree (dBody false 9 (B__law_free F1 F2 F3)) := by
  intro S i n nm ht hn tb
  obtain ⟨v1, S1, hv1, e1, c1⟩ := h1 S i n 2 ht (by omega) (by omega) (by omega)
  obtain ⟨v2, S2, hv2, e2, c2⟩ := h1 S1 i (n + 1) 5 c1.tp (by omega) (by omega) (by omega)
  obtain ⟨cl, hcl⟩ : ∃ cl, cl = ([99, 100].take (v1 + 1)).map nm := ⟨_, rfl⟩
  have clne : cl ≠ [] := by rw [hcl]; simp
  have cll : cl.length ≤ 10 := by rw [hcl]; simp only [List.length_map, List.length_take, List.length_cons, List.length_nil]; omega
  have mC : ∀ c ∈ [99, 100].take (v1 + 1), c ∈ codes := fun c hc => by
    have := List.mem_of_mem_take hc
    revert this
    unfold codes
    simp only [List.mem_cons, List.not_mem_nil, or_false]
    omega
  have mS : ∀ c ∈ [115, 116, 117, 118].take v2, c ∈ codes := fun c hc => by
    have := List.mem_of_mem_take hc
    revert this
    unfold codes
    simp only [List.mem_cons, List.not_mem_nil, or_false]
    omega
  have lS : ([115, 116, 117, 118].take v2).length ≤ 4 := by simp only [List.length_take, List.length_cons, List.length_nil]; omega
  obtain ⟨ss, S3, s1, s2, s3, c3⟩ := free_slots h3 (nm := nm) clne cll (x3 := none) (x4 := none) (x5 := none) (x6 := none) (x7 := none) ([115, 116, 117, 118].take v2) [] S2 (n + 1 + 1) mS c2.tp (by omega) (by rw [List.length_nil]; omega)
  rw [List.nil_append] at s3
  obtain ⟨v3, S4, hv3, e3, c4⟩ := h1 S3 i (n + 1 + 1 + ([115, 116, 117, 118].take v2).length) 3 c3.tp (by omega) (by omega) (by omega)
  obtain ⟨v4, S5, hv4, e4, c5⟩ := h1 S4 i (n + 1 + 1 + ([115, 116, 117, 118].take v2).length + 1) 5 c4.tp (by omega) (by omega) (by omega)
  obtain ⟨v5, S6, hv5, e5, c6⟩ := h1 S5 i (n + 1 + 1 + ([115, 116, 117, 118].take v2).length + 1 + 1) 14 c5.tp (by omega) (by omega) (by omega)
  have mP : ∀ c ∈ [112, 113, 114].take (v3 + 1), c ∈ codes := fun c hc => by
    have := List.mem_of_mem_take hc
    revert this
    unfold codes
    simp only [List.mem_cons, List.not_mem_nil, or_false]
    omega
  have ok0 := free_pg tb (k1 := v1 + 1) (k2 := v2) (k3 := v3 + 1) s1 (by rw [← hcl]; exact s2)
  obtain ⟨ps, hps⟩ : ∃ ps : List (Str × List Arw), ps = ([112, 113, 114].take (v3 + 1)).map fun c => (nm c, []) := ⟨_, rfl⟩
  rw [← hcl, ← hps] at ok0
  obtain ⟨ys1, p1, q1⟩ := sorted_strs cl (by omega)
  obtain ⟨ys2, p2, q2⟩ := sorted_ht slotD (·.1) (fun s => [.str s.2]) (fun _ => rfl) ss ok0.ndS (by have := ok0.lenS; simp only at this; omega)
  obtain ⟨ys3, p3, q3⟩ := sorted_ht partyD (·.1) (fun s => [.tup (s.2.map Arw.d)]) (fun _ => rfl) ps ok0.ndP (by have := ok0.lenP; simp only at this; omega)
  have okp := ok0.perm (q := ⟨ys1, ys2, ys3⟩) p1 p2 p3
  obtain ⟨p', S', y7, r1, r2, r3⟩ := free_loop h2 (i := i) (m := v4 + 1) (by omega) (by omega) (x1 := some (.dct (tabKV nm))) (x2 := some (.lst (cl.map D.str))) (x3 := some (.lst (ss.map slotD))) (x4 := some (.lst (ps.map partyD))) (x8 := none) (List.range (v5 + 2)) ⟨ys1, ys2, ys3⟩ S6 (n + 1 + 1 + ([115, 116, 117, 118].take v2).length + 1 + 1 + 1) none okp c6.tp (by rw [List.length_range]; omega)
  rw [List.length_range] at r2
  have ch := (((((c1.trans c2).trans c3).trans c4).trans c5).trans c6).trans r2
  refine ⟨p', S', r1, ?_, ch.mono (by omega)⟩
  show doneR false S (B__law_free F1 F2 F3 [some (.ref i), some (.dct (tabKV nm)), none, none, none, none, none, none, none] S) = _
  have tc : (Str.ofString "cd").cps.toList = [99, 100] := by decide +kernel
  have ts : (Str.ofString "stuv").cps.toList = [115, 116, 117, 118] := by decide +kernel
  have tp : (Str.ofString "pqr").cps.toList = [112, 113, 114] := by decide +kernel
  have sc := sl_str tc (by decide +kernel) (v1 + 1)
  have st := sl_str ts (by decide +kernel) v2
  have sp := sl_str tp (by decide +kernel) (v3 + 1)
  have cC := compD_map (b := gName' 8) (t := tTrue) (e := eBin ixD (eVar 1) (eVar 8)) (fun c : Nat => D.str ⟨#[c]⟩) (fun c => D.str (nm c)) (r0 := [some (.ref i), some (.dct (tabKV nm)), none, none, none, none, none, none, none]) (S := S1) ([99, 100].take (v1 + 1)) (fun c hc => by
    have lk := look_tab (nm := nm) (mC c hc)
    unfold ch1 at lk
    simp_arith only [look_ix, lk]) (by simp only [List.length_take, List.length_cons, List.length_nil]; omega)
  have eC' : (([99, 100].take (v1 + 1)).map fun c => D.str (nm c)) = cl.map D.str := by rw [hcl, List.map_map]; rfl
  rw [eC'] at cC
  have cP := compD_map (b := gName' 8) (t := tTrue) (e := eTup (aCons (eBin ixD (eVar 1) (eVar 8)) (aCons (eTup aNil) aNil))) (fun c : Nat => D.str ⟨#[c]⟩) (fun c => D.tup [.str (nm c), .tup []]) (r0 := [some (.ref i), some (.dct (tabKV nm)), some (.lst (cl.map D.str)), some (.lst (ss.map slotD)), none, none, none, none, none]) (S := S4) ([112, 113, 114].take (v3 + 1)) (fun c hc => by
    have lk := look_tab (nm := nm) (mP c hc)
    unfold ch1 at lk
    simp_arith only [look_ix, lk, few0, few2]) (by simp only [List.length_take, List.length_cons, List.length_nil]; omega)
  have eP : (([112, 113, 114].take (v3 + 1)).map fun c => D.tup [.str (nm c), .tup []]) = ps.map partyD := by rw [hps, List.map_map]; rfl
  rw [eP] at cP
  have n1 : (1 : Int) + ((v1 : Nat) : Int) = ((v1 + 1 : Nat) : Int) := by omega
  have n3 : (1 : Int) + ((v3 : Nat) : Int) = ((v3 + 1 : Nat) : Int) := by omega
  have n4 : (1 : Int) + ((v4 : Nat) : Int) = ((v4 + 1 : Nat) : Int) := by omega
  have n5 : (2 : Int) + ((v5 : Nat) : Int) = ((v5 + 2 : Nat) : Int) := by omega
  rw [show ((2 : Nat) : Int) = (2 : Int) from rfl] at e1
  rw [show ((5 : Nat) : Int) = (5 : Int) from rfl] at e2 e4
  rw [show ((3 : Nat) : Int) = (3 : Int) from rfl] at e3
  rw [show ((14 : Nat) : Int) = (14 : Int) from rfl] at e5
  have rg := range1 (n := v5 + 2) (by omega)
  rw [pgD] at r3
  simp_arith only [B__law_free, e1, n1, sc, cutC_l, cC, e2, st, s3, e3, n3, sp, cP, q1, q2, q3, few3, e4, n4, e5, n5, rg, r3]
  exact done_rt S S' _ ch.len
def SpProgram (F : Fn) : Prop := ∀ (S : Sto) (i n : Nat), Tp S i n → n + 300 ≤ 100000 → ∃ (p : Pg) (S' : Sto), p.Ok ∧ F [.ref i] S = .ok p.d S' ∧ Ch S S' i (n + 300)
theorem law_program_ok {F1 F2 F3 F4 F5 F6 F7 : Fn} (h1 : SpDraw F1) (h2 : SpFree F2) (h3 : SpGrown F3) (h4 : SpPick F4) (h5 : SpScenes F5) (h6 : SpTable F6) (h7 : SpWritten F7) : SpProgram (dBody false 4 (B__law_program F1 F2 F3 F4 F5 F6 F7)) := by
  intro S i n ht hn
  have key : ∃ (p : Pg) (S' : Sto), p.Ok ∧ B__law_program F1 F2 F3 F4 F5 F6 F7 [some (.ref i), none, none, none] S = .ok (.rt p.d) S' ∧ Ch S S' i (n + 300) := by
    obtain ⟨nm, S1, tb, e1, c1⟩ := h6 S i n ht (by omega)
    obtain ⟨v, S2, hv, e2, c2⟩ := h1 S1 i (n + 6) 6 c1.tp (by omega) (by omega) (by omega)
    rw [show ((6 : Nat) : Int) = (6 : Int) from rfl] at e2
    have ch := c1.trans c2
    by_cases a : v = 0
    · subst a
      obtain ⟨p, S3, ok, e3, c3⟩ := h2 S2 i (n + 6 + 1) nm c2.tp (by omega) tb
      refine ⟨p, S3, ok, ?_, (ch.trans c3).mono (by omega)⟩
      simp_arith only [B__law_program, e1, e2, eqD_int, show (((0 : Nat) : Int) == (0 : Int)) = true from rfl, e3]
    · obtain ⟨xs, x1, x2, x3, e3⟩ := h5
      obtain ⟨pg, S3, hx, e4, c3⟩ := pick_strs h4 (xs := xs) true c2.tp (by omega) x1 x2
      simp only [if_true] at e4
      obtain ⟨p, ok, e5⟩ := h7 pg nm S3 (x3 pg hx) tb
      have nv : (((v : Nat) : Int) == (0 : Int)) = false := by
        rw [beq_eq_false_iff_ne]
        omega
      by_cases b : ((v : Nat) : Int) < 3
      · obtain ⟨p', S4, ok', e6, c4⟩ := h3 S3 i (n + 6 + 1 + 1) 4 p c3.tp (by omega) ok (by omega) (by omega)
        rw [show ((4 : Nat) : Int) = (4 : Int) from rfl] at e6
        refine ⟨p', S4, ok', ?_, ((ch.trans c3).trans c4).mono (by omega)⟩
        simp_arith only [B__law_program, e1, e2, eqD_int, nv, e3, e4, e5, decide_eq_true b, e6]
      · refine ⟨p, S3, ok, ?_, (ch.trans c3).mono (by omega)⟩
        simp_arith only [B__law_program, e1, e2, eqD_int, nv, e3, e4, e5, decide_eq_false b]
  obtain ⟨p', S', k1, k2, k3⟩ := key
  refine ⟨p', S', k1, ?_, k3⟩
  show doneR false S (B__law_program F1 F2 F3 F4 F5 F6 F7 [some (.ref i), none, none, none] S) = _
  rw [k2]
  exact done_rt S S' _ k3.len
end SS
end

section
set_option Elab.async false
set_option linter.all false
set_option maxRecDepth 100000
set_option autoImplicit false
set_option maxHeartbeats 4000000
namespace SS
open PySem PySem.Spec PyProof.Rows L2 FL
local macro_rules
  | `(tactic| simp_arith only [$xs,*]) => `(tactic| simp (config := { implicitDefEqProofs := false }) only [tn_ok, oR_some, nx_ok, ev_var, ev_c, ev_bin, ev_kBin1, ev_kBin2, ev_un, ev_kUn, ev_asB, ev_kB, ev_asT, ev_kT, ev_tAnd2, ev_kAndT, ev_kAndF, ev_tOr2, ev_kOrT, ev_kOrF, ev_not, ev_kNot, ev_eAnd2, ev_kAndE, ev_kAndET, ev_kAndEF, ev_eOr2, ev_kOrE, ev_kOrET, ev_kOrEF, ev_eNot1, ev_kNotE, ev_kNotE2, ev_if, ev_kIfT, ev_kIfF, ev_aNil, ev_aCons, ev_kCons, ev_kCons2, ev_aStar, ev_kStar, ev_kStar2, ev_kStar3, ev_eTup, ev_kTup, ev_kTup2, ev_eLst, ev_kLst, ev_kLst2, ev_eNewL, ev_kNewL, ev_kNewL2, ev_newD, ev_callP, ev_kCallP, ev_call, ev_kCall, ev_kCall2, ev_oNone, ev_oSome, ev_kO, ev_kO2, ev_sl, ev_kSl, ev_kSl2, ev_kSl3, ev_meth, ev_kM, ev_kM2, ev_kM3, ev_meth0, ev_kM0, ev_chain, ev_kCh, ev_kCh2, ev_kCh3T, ev_kCh3F, ev_kCh4, ev_kLs, ev_kComp, ev_comp, ev_kRef, ev_compM, ev_kComp2, ev_comp2, ev_iSeq, ev_kIt, ev_iRange, ev_kRg, ev_enT, ev_enL, ev_iEnum, items_lst, items_tup, items_str, ev_true, ev_ret, ev_kRet, ev_expr, ev_kEx, ev_asg, ev_kAsg, ev_kNx, ev_seq, ev_kSeqN, ev_kSeqR, ev_kSeqB, ev_kSeqC, ev_ifS, ev_kIfST, ev_kIfSF, ev_for, ev_kFor, ev_next, ev_retN, ev_break, ev_cont, ev_par, ev_kPar, ev_par3, ev_kPar3, ev_gName, ev_gTup, ev_gsNil, ev_gsCons, ev_kGs, ev_gSub, ev_kSub, ev_kSub2, ev_kSub3, ev_kSub4, ev_mut, ev_kMu, ev_kMu2, ev_kMu3, ev_kMu4, ev_catM, ev_kCat, ev_kCat2, ev_catR, vw_non, vw_bl, vw_int, vw_str, vw_lst, vw_tup, vw_dct, vw_ref, vwO_lst, vwO_dct, tru_bl, tru_int, tru_lst, tru_tup, tru_non, add_int, add_lst, add_tup, add_str, sub_int, neg_int, gt_int, ge_int, lt_int, le_int, len_lst, len_tup, len_dct, len_str, int_int, tuple_lst, tuple_tup, list_lst, list_tup, sl_lst, sl_tup, is_non, isnt_non, non_bl, non_int, non_str, non_lst, non_tup, non_non, int_int?, ref_ref?, alt_tup, alt_lst, isi_int_non, isi_int_bl, isi_int_int, isi_int_str, isi_int_lst, isi_int_tup, isi_bool_non, isi_bool_bl, isi_bool_int, isi_bool_str, isi_bool_lst, isi_bool_tup, isi_str_non, isi_str_bl, isi_str_int, isi_str_str, isi_str_lst, isi_str_tup, isi_tuple_non, isi_tuple_bl, isi_tuple_int, isi_tuple_str, isi_tuple_lst, isi_tuple_tup, isi_list_non, isi_list_bl, isi_list_int, isi_list_str, isi_list_lst, isi_list_tup, isi_dict_non, isi_dict_bl, isi_dict_int, isi_dict_str, isi_dict_lst, isi_dict_tup, tyIn_lst2, tyD_lst, tyIn_tup2, tyD_tup, tyIn_str, tyD_str, tyIn_dct, tyD_dct, ev_cStep, ev_kC, ev_kC2T, ev_kC2F, ev_kSome, ev_cStep2, ev_kD, ev_kD2T, ev_kD2F, ev_kD3, ev_lStep, ev_kL, List.getElem?_cons_zero, List.getElem?_cons_succ, Option.join_some, Option.bind_some, Option.map_some, wipeE, List.set_cons_zero, List.set_cons_succ, List.length_cons, List.length_nil, List.map_cons, List.map_nil, gAll, gDef, List.cons_append, List.nil_append, if_true, if_false, Bool.not_true, Bool.not_false, Nat.zero_add, Nat.reduceAdd, Nat.reduceLeDiff, and_true, and_self, true_and, reduceIte, Bool.false_eq_true, $xs,*])
/-! ## what the laws of runs share -/
def SpTape (F : Fn) : Prop := ∀ (ns : List Int) (S : Sto), ns.length ≤ 63 → F [.lst (ns.map D.int)] S = .ok (.ref S.length) (S ++ [tapeOb ns 0 0 0])
theorem law_tape_ok : SpTape (dBody true 1 B__law_tape) := by
  intro ns S h
  show doneR true S (B__law_tape [some (.lst (ns.map D.int))] S) = _
  have c : cutL (ns.map D.int) none (some 63) = ns.map D.int := by
    unfold cutL
    rw [HT.sIx_none, List.drop_zero, Nat.sub_zero, show (some 63 : Option Int) = some ((63 : Nat) : Int) from rfl, HT.sIx_nat]
    exact List.take_of_length_le (by rw [List.length_map]; omega)
  simp_arith only [B__law_tape, c, few4]
  rfl
theorem tp_tape (ns : List Int) (S : Sto) : Tp (S ++ [tapeOb ns 0 0 0]) S.length 0 := ⟨ns, 0, 0, 0, by simp, by omega, by omega, by omega⟩
theorem okRoad_take {p : Pg} : ∀ {es : List Ev} {s : St} (k : Nat), okRoad p s es → okRoad p s (es.take k)
  | [], s, k, _ => by rw [List.take_nil]; trivial
  | e :: es, s, 0, _ => trivial
  | e :: es, s, k + 1, ⟨a, b, c⟩ => ⟨a, b, okRoad_take k c⟩
theorem lastSt_take (p : Pg) (s : St) (es : List Ev) (k : Nat) (e : Ev) (h : es[k]? = some e) : lastSt p s (es.take (k + 1)) = afterE p (lastSt p s (es.take k)) e := by
  rw [List.take_add_one, h]
  exact lastSt_app p (es.take k) s e
def plSm (s : St) : Prop := ∀ x ∈ s.pl, 0 ≤ x ∧ x ≤ 100
theorem plSm_begun (p : Pg) : plSm p.begun := fun x hx => by
  have : x = 0 := List.eq_of_mem_replicate hx
  omega
theorem plSm_after {p : Pg} (ok : p.Ok) {s : St} (h : plSm s) {e : Ev} (he : e ∈ p.evs) : plSm (afterE p s e) := by
  obtain ⟨hn, a, ha⟩ := evs_mem ok he
  rw [afterE_eq ha]
  obtain ⟨_, _, _, q1, q2⟩ := arw_ok ok hn ha
  intro x hx
  rcases List.mem_or_eq_of_mem_set hx with h1 | rfl
  · exact h x h1
  · exact ⟨q1, q2⟩
theorem plSm_last {p : Pg} (ok : p.Ok) : ∀ {es : List Ev} {s : St}, plSm s → (∀ e ∈ es, e ∈ p.evs) → plSm (lastSt p s es)
  | [], s, h, _ => h
  | e :: es, s, h, he => plSm_last (es := es) (s := afterE p s e) ok (plSm_after ok h (he e List.mem_cons_self)) fun x hx => he x (List.mem_cons_of_mem _ hx)
theorem evs_small {p : Pg} (ok : p.Ok) {e : Ev} (h : e ∈ p.evs) : okN e.1 ∧ e.2 < 100 := by
  unfold Pg.evs at h
  obtain ⟨q, hq, h⟩ := List.mem_flatMap.mp h
  obtain ⟨k, hk, rfl⟩ := List.mem_map.mp h
  have := ok.lenA q hq
  rw [List.mem_range] at hk
  exact ⟨ok.names q hq, by simp only; omega⟩
theorem sz_evs {p : Pg} (ok : p.Ok) {es : List Ev} (h : ∀ e ∈ es, e ∈ p.evs) {m : Nat} (hm : es.length ≤ m) : Sz (m * 103 + 3) (.tup (es.map evD)) ∧ Sz (m * 103 + 3) (.lst (es.map evD)) :=
  sz_map evD 101 m es (fun e he => by
    obtain ⟨h1, h2⟩ := evs_small ok (h e he)
    exact (sz_tup2 (n := 0) (m := 0) (sz_name h1) (sz_int (i := (e.2 : Nat)) (by omega))).1) hm
theorem sz_ints {xs : List Int} (h : ∀ x ∈ xs, x.natAbs < 10 ^ 10) {m : Nat} (hm : xs.length ≤ m) : Sz (m * 14 + 3) (intsD xs) := (sz_map D.int 12 m xs (fun x hx => sz_int (h x hx)) hm).1
theorem pk_two {n : Nat} {x y : D} (h1 : Pk n x) (h2 : Pk n y) : Pk (n + 1) (.lst [x, y]) ∧ Pk (n + 1) (.tup [x, y]) := by
  have : ∀ d ∈ [x, y], Pk n d := fun d hd => by
    simp only [List.mem_cons, List.not_mem_nil, or_false] at hd
    rcases hd with rfl | rfl
    · exact h1
    · exact h2
  exact ⟨pk_lst this, pk_tup this⟩
theorem sh_told {p : Pg} (ok : p.Ok) {s : St} (so : s.Ok p) (hs : plSm s) {es : List Ev} (h : ∀ e ∈ es, e ∈ p.evs) (hl : es.length ≤ 1000) : Sh 200000 (.lst [.tup (es.map evD), intsD s.pl]) := by
  have a := (sz_evs ok h hl).1
  have b := sz_ints (xs := s.pl) (fun x hx => by have := hs x hx; omega) (m := 10) (by rw [so.pl]; exact ok.lenP)
  obtain ⟨c1, c2⟩ := (sz_tup2 (n := 0) (m := 0) a b).2
  exact ⟨(pk_two (n := 2) (pk_evsT es) ((pk_ints _).mono (by omega))).1.pn (by omega), c1, Nat.le_trans c2 (by omega)⟩
end SS
end

section
set_option Elab.async false
set_option linter.all false
set_option maxRecDepth 100000
set_option autoImplicit false
set_option maxHeartbeats 4000000
namespace SS
open PySem PySem.Spec PyProof.Rows L2 FL
/-! ## loops over a range, by an invariant -/
theorem loopD_range' {b : FGx} {body : FSx} (I : Nat → FL.Env → Sto → Prop) (n : Nat) (step : ∀ (m : Nat) (r : FL.Env) (S : Sto), m < n → I m r S → ∃ r' S', lStep b body (.int (m : Nat)) r S = .ok (.nx r') S' ∧ I (m + 1) r' S') :
    ∀ (k m : Nat) (r : FL.Env) (S : Sto), m + k = n → I m r S → ∃ r' S', loopD b body ((List.range' m k).map fun i : Nat => D.int (i : Nat)) r S = .ok (.nx r') S' ∧ I n r' S'
  | 0, m, r, S, h, i => ⟨r, S, rfl, by rw [← h]; exact i⟩
  | k + 1, m, r, S, h, i => by
    obtain ⟨r1, S1, e1, i1⟩ := step m r S (by omega) i
    obtain ⟨r2, S2, e2, i2⟩ := loopD_range' I n step k (m + 1) r1 S1 (by omega) i1
    refine ⟨r2, S2, ?_, i2⟩
    rw [List.range'_succ, List.map_cons, loopD_step e1]
    exact e2
theorem loopD_range {b : FGx} {body : FSx} (I : Nat → FL.Env → Sto → Prop) (n : Nat) (r : FL.Env) (S : Sto) (i : I 0 r S) (step : ∀ (m : Nat) (r : FL.Env) (S : Sto), m < n → I m r S → ∃ r' S', lStep b body (.int (m : Nat)) r S = .ok (.nx r') S' ∧ I (m + 1) r' S') :
    ∃ r' S', loopD b body ((List.range n).map fun i : Nat => D.int (i : Nat)) r S = .ok (.nx r') S' ∧ I n r' S' := by
  rw [List.range_eq_range']
  exact loopD_range' I n step n 0 r S (by omega) i
theorem cut_take' (xs : List D) (i : Nat) : cutL xs none (some (i : Int)) = xs.take i := by
  unfold cutL
  rw [HT.sIx_none, show HT.sIx xs.length xs.length (some (i : Int)) = min i xs.length from HT.sIx_nat xs.length xs.length i, List.drop_zero, Nat.sub_zero]
  rcases Nat.le_total i xs.length with h | h
  · rw [Nat.min_eq_left h]
  · rw [Nat.min_eq_right h, List.take_of_length_le (Nat.le_refl _), List.take_of_length_le h]
theorem cut_drop' (xs : List D) (i : Nat) : cutL xs (some (i : Int)) none = xs.drop i := by
  unfold cutL
  rw [show HT.sIx xs.length 0 (some (i : Int)) = min i xs.length from HT.sIx_nat xs.length 0 i, HT.sIx_none]
  rcases Nat.le_total i xs.length with h | h
  · rw [Nat.min_eq_left h]
    exact List.take_of_length_le (by simp)
  · rw [Nat.min_eq_right h, List.drop_of_length_le h, List.drop_of_length_le (Nat.le_refl _)]
    simp
theorem str_eq (x : Str) : (x == x) = true := by simp
/-- the step over the moments of a road -/
theorem step_div (n d : Nat) (hd : 0 < d) (hd2 : d < 1000) (hn : n ≤ 1000) : fdivD (.int (n : Int)) (.int (d : Int)) = some (.int ((n / d : Nat) : Int)) ∧ (1 : Int) + ((n / d : Nat) : Int) = ((1 + n / d : Nat) : Int) := by
  refine ⟨?_, by omega⟩
  rw [fdivD_int (by omega) (by omega)]
  rfl
theorem step_most (ms : List Nat) (v : Nat) (hv : v < ms.length) (b : Nat) (hb : ∀ m ∈ ms, m ≤ b) : ∃ m : Nat, (ms.map fun m : Nat => D.int (m : Nat))[v]? = some (.int (m : Nat)) ∧ m ≤ b :=
  ⟨ms[v], by rw [List.getElem?_map, List.getElem?_eq_getElem hv]; rfl, hb _ (List.getElem_mem hv)⟩
/-! ## loops that draw -/
theorem loopD_tape {α : Type} {b : FGx} {body : FSx} (f : α → D) (i c : Nat) (P : α → Prop) (E : FL.Env → Prop) (step : ∀ (x : α) (r : FL.Env) (S : Sto) (n : Nat), P x → E r → Tp S i n → n + c ≤ 100000 → ∃ r' S', lStep b body (f x) r S = .ok (.nx r') S' ∧ E r' ∧ Ch S S' i (n + c)) :
    ∀ (xs : List α) (r : FL.Env) (S : Sto) (n : Nat), (∀ x ∈ xs, P x) → E r → Tp S i n → n + c * xs.length ≤ 100000 → ∃ r' S', loopD b body (xs.map f) r S = .ok (.nx r') S' ∧ E r' ∧ Ch S S' i (n + c * xs.length)
  | [], r, S, n, _, e, t, _ => ⟨r, S, rfl, e, Ch.refl t⟩
  | x :: xs, r, S, n, hp, e, t, hn => by
    rw [List.length_cons, Nat.mul_succ] at hn
    obtain ⟨r1, S1, s1, e1, c1⟩ := step x r S n (hp x List.mem_cons_self) e t (by omega)
    obtain ⟨r2, S2, s2, e2, c2⟩ := loopD_tape f i c P E step xs r1 S1 (n + c) (fun y hy => hp y (List.mem_cons_of_mem _ hy)) e1 c1.tp (by omega)
    refine ⟨r2, S2, ?_, e2, ?_⟩
    · rw [List.map_cons, loopD_step s1]; exact s2
    · rw [List.length_cons, Nat.mul_succ]
      exact c1.trans (c2.mono (by omega))
theorem loopD_tapeR {b : FGx} {body : FSx} (i c : Nat) (N : Nat) (E : Nat → FL.Env → Prop) (step : ∀ (m : Nat) (r : FL.Env) (S : Sto) (n : Nat), m < N → E m r → Tp S i n → n + c ≤ 100000 → ∃ r' S', lStep b body (.int (m : Nat)) r S = .ok (.nx r') S' ∧ E (m + 1) r' ∧ Ch S S' i (n + c)) (r : FL.Env) (S : Sto) (n : Nat) (e : E 0 r) (t : Tp S i n) (hn : n + c * N ≤ 100000) :
    ∃ r' S', loopD b body ((List.range N).map fun k : Nat => D.int (k : Nat)) r S = .ok (.nx r') S' ∧ E N r' ∧ Ch S S' i (n + c * N) := by
  obtain ⟨r', S', l, e', c'⟩ := loopD_range (b := b) (body := body) (fun m r' S' => E m r' ∧ Ch S S' i (n + c * m)) N r S ⟨e, by rw [Nat.mul_zero]; exact Ch.refl t⟩ (by
    intro m r1 S1 hm ⟨e1, c1⟩
    have hc : c * (m + 1) ≤ c * N := Nat.mul_le_mul_left c hm
    rw [Nat.mul_succ] at hc
    obtain ⟨r2, S2, s2, e2, c2⟩ := step m r1 S1 (n + c * m) hm e1 c1.tp (by omega)
    exact ⟨r2, S2, s2, e2, by rw [Nat.mul_succ, ← Nat.add_assoc]; exact c1.trans c2⟩)
  exact ⟨r', S', l, e', c'⟩
/-! ## plain data with truth values -/
mutual
def np : D → Bool
  | .non => true
  | .bl _ => true
  | .int _ => true
  | .str _ => true
  | .lst xs => nps xs
  | .tup xs => nps xs
  | _ => false
def nps : List D → Bool
  | [] => true
  | d :: ds => np d && nps ds
end
mutual
theorem toPy_np : ∀ d : D, np d = true → toPy d = some (py d)
  | .non, _ => rfl
  | .bl _, _ => rfl
  | .int _, _ => rfl
  | .str _, _ => rfl
  | .lst xs, h => by simp only [np] at h; simp only [toPy, py, toPys_np xs h, Option.map_some]
  | .tup xs, h => by simp only [np] at h; simp only [toPy, py, toPys_np xs h, Option.map_some]
  | .dct _, h => by simp [np] at h
  | .ref _, h => by simp [np] at h
theorem toPys_np : ∀ ds : List D, nps ds = true → toPys ds = some (pys ds)
  | [], _ => rfl
  | d :: ds, h => by
    obtain ⟨h1, h2⟩ := Bool.and_eq_true_iff.mp (show (np d && nps ds) = true from h)
    simp only [toPys, pys, toPy_np d h1, toPys_np ds h2]
end
mutual
theorem dep_np : ∀ d : D, np d = true → (py d).depth = dep d
  | .non, _ => rfl
  | .bl _, _ => rfl
  | .int _, _ => rfl
  | .str _, _ => rfl
  | .lst xs, h => by simp only [np] at h; simp only [py, PyData.depth, dep, deps_np xs h]
  | .tup xs, h => by simp only [np] at h; simp only [py, PyData.depth, dep, deps_np xs h]
  | .dct _, h => by simp [np] at h
  | .ref _, h => by simp [np] at h
theorem deps_np : ∀ ds : List D, nps ds = true → PyData.depthAll (pys ds) = deps ds
  | [], _ => rfl
  | d :: ds, h => by
    obtain ⟨h1, h2⟩ := Bool.and_eq_true_iff.mp (show (np d && nps ds) = true from h)
    simp only [pys, PyData.depthAll, deps, dep_np d h1, deps_np ds h2]
end
mutual
def szb : D → Nat
  | .non => 5
  | .bl _ => 5
  | .int _ => 62
  | .str x => 10 * x.length + 2
  | .lst xs => szbs xs + 3
  | .tup xs => szbs xs + 3
  | _ => 0
def szbs : List D → Nat
  | [] => 0
  | d :: ds => szb d + 2 + szbs ds
end
mutual
def smb : D → Bool
  | .non => true
  | .bl _ => true
  | .int i => decide (i.natAbs < 10 ^ 60)
  | .str x => x.cps.toList.all fun c => decide (c < 1000)
  | .lst xs => smbs xs
  | .tup xs => smbs xs
  | _ => false
def smbs : List D → Bool
  | [] => true
  | d :: ds => smb d && smbs ds
end
mutual
theorem shownb_ok : ∀ d : D, np d = true → smb d = true → (py d).showable = true ∧ (py d).shown.length ≤ szb d
  | .non, _, _ => ⟨rfl, by show (Str.ofString "None").length ≤ 5; decide +kernel⟩
  | .bl true, _, _ => ⟨rfl, by show (Str.ofString "True").length ≤ 5; decide +kernel⟩
  | .bl false, _, _ => ⟨rfl, by show (Str.ofString "False").length ≤ 5; decide +kernel⟩
  | .int i, _, h => by
    have hi : i.natAbs < 10 ^ 60 := of_decide_eq_true h
    refine ⟨?_, ?_⟩
    · show decide (i.natAbs.log2 < 1920) = true
      refine decide_eq_true ?_
      by_cases z : i.natAbs = 0
      · rw [z]; decide
      · exact (Nat.log2_lt z).mpr (Nat.lt_of_lt_of_le hi (by decide +kernel))
    · show (Str.ofString (toString i)).length ≤ 62
      rw [PySem.ofString_length]
      have := int_text_length_le10 (a := i) (k := 60) (by decide) hi
      omega
  | .str x, _, h => ⟨rfl, StrLaws.reprText_len x fun c hc => Nat.lt_of_lt_of_le (of_decide_eq_true (List.all_eq_true.mp h c hc)) (by decide)⟩
  | .lst xs, hn, h => by
    simp only [np] at hn
    simp only [smb] at h
    obtain ⟨h1, h2⟩ := shownb_oks xs hn h
    refine ⟨h1, ?_⟩
    show (listText (PyData.shownAll (pys xs))).length ≤ szbs xs + 3
    exact Nat.le_trans (list_len _) (by omega)
  | .tup xs, hn, h => by
    simp only [np] at hn
    simp only [smb] at h
    obtain ⟨h1, h2⟩ := shownb_oks xs hn h
    refine ⟨h1, ?_⟩
    show (tupleText (PyData.shownAll (pys xs))).length ≤ szbs xs + 3
    exact Nat.le_trans (tuple_len _) (by omega)
  | .dct _, h, _ => by simp [np] at h
  | .ref _, h, _ => by simp [np] at h
theorem shownb_oks : ∀ ds : List D, nps ds = true → smbs ds = true → PyData.showableAll (pys ds) = true ∧ ((PyData.shownAll (pys ds)).map fun t => t.length + 2).sum ≤ szbs ds
  | [], _, _ => ⟨rfl, Nat.le_refl _⟩
  | d :: ds, hn, h => by
    obtain ⟨a1, a2⟩ := Bool.and_eq_true_iff.mp (show (np d && nps ds) = true from hn)
    obtain ⟨b1, b2⟩ := Bool.and_eq_true_iff.mp (show (smb d && smbs ds) = true from h)
    obtain ⟨c1, c2⟩ := shownb_ok d a1 b1
    obtain ⟨d1, d2⟩ := shownb_oks ds a2 b2
    refine ⟨?_, ?_⟩
    · show ((py d).showable && PyData.showableAll (pys ds)) = true
      rw [c1, d1]
      rfl
    · show (((py d).shown :: PyData.shownAll (pys ds)).map fun t => t.length + 2).sum ≤ szb d + 2 + szbs ds
      rw [List.map_cons, List.sum_cons]
      omega
end
/-- plain, of depth at most k, small, shown in at most n signs -/
structure Rp (k n : Nat) (d : D) : Prop where
  np : np d = true
  dp : dep d ≤ k
  sm : smb d = true
  sz : szb d ≤ n
theorem Rp.mono {k n k' n' : Nat} {d : D} (h : Rp k n d) (hk : k ≤ k') (hn : n ≤ n') : Rp k' n' d := ⟨h.np, Nat.le_trans h.dp hk, h.sm, Nat.le_trans h.sz hn⟩
theorem reprb_ok {k n : Nat} {d : D} (h : Rp k n d) (hk : k ≤ 64) (hn : n ≤ 1000000) : reprD [d] = some (.str (py d).shown) := by
  obtain ⟨h1, h2⟩ := shownb_ok d h.np h.sm
  have : pyD d = some (py d) := by
    unfold pyD
    rw [toPy_np d h.np]
    simp only [Option.bind_some, dep_np d h.np]
    rw [if_pos (Nat.le_trans h.dp hk)]
  simp only [reprD, one, this, Option.bind_some, reprP]
  rw [if_pos ⟨h1, by have := h.sz; omega⟩]
theorem rp_non (k : Nat) : Rp k 62 .non := ⟨rfl, by simp [dep], rfl, by simp [szb]⟩
theorem rp_bl (k : Nat) (b : Bool) : Rp k 62 (.bl b) := ⟨rfl, by simp [dep], rfl, by simp [szb]⟩
theorem rp_int (k : Nat) {i : Int} (h : i.natAbs < 10 ^ 60) : Rp k 62 (.int i) := ⟨rfl, by simp [dep], decide_eq_true h, by simp [szb]⟩
theorem rp_str (k : Nat) {x : Str} {n : Nat} (h : x.length ≤ n) (h2 : ∀ c ∈ x.cps.toList, c < 1000) : Rp k (10 * n + 2) (.str x) := ⟨rfl, by simp [dep], List.all_eq_true.mpr fun c hc => decide_eq_true (h2 c hc), by simp only [szb]; omega⟩
theorem rp_name (k : Nat) {x : Str} (h : okN x) : Rp k 82 (.str x) := rp_str k h.2.1 fun c hc => by have := (h.2.2 c hc).2; omega
theorem nps_iff : ∀ ds : List D, nps ds = true ↔ ∀ d ∈ ds, np d = true
  | [] => by simp [nps]
  | d :: ds => by simp [nps, nps_iff ds]
theorem smbs_iff : ∀ ds : List D, smbs ds = true ↔ ∀ d ∈ ds, smb d = true
  | [] => by simp [smbs]
  | d :: ds => by simp [smbs, smbs_iff ds]
theorem szbs_le (n : Nat) : ∀ ds : List D, (∀ d ∈ ds, szb d ≤ n) → szbs ds ≤ ds.length * (n + 2)
  | [], _ => by simp [szbs]
  | d :: ds, h => by
    have h1 := h d List.mem_cons_self
    have h2 := szbs_le n ds fun y hy => h y (List.mem_cons_of_mem _ hy)
    rw [szbs, List.length_cons, Nat.succ_mul]
    omega
theorem rp_seq {k n m : Nat} {ds : List D} (h : ∀ d ∈ ds, Rp k n d) (hm : ds.length ≤ m) : Rp (k + 1) (m * (n + 2) + 3) (.lst ds) ∧ Rp (k + 1) (m * (n + 2) + 3) (.tup ds) := by
  have a := (nps_iff ds).mpr fun d hd => (h d hd).np
  have b := (smbs_iff ds).mpr fun d hd => (h d hd).sm
  have c := szbs_le n ds fun d hd => (h d hd).sz
  have e : deps ds ≤ k := (deps_le ds).mpr fun d hd => (h d hd).dp
  have f : ds.length * (n + 2) ≤ m * (n + 2) := Nat.mul_le_mul_right _ hm
  refine ⟨⟨by simp only [SS.np]; exact a, by simp only [dep]; omega, by simp only [smb]; exact b, by simp only [szb]; omega⟩, ⟨by simp only [SS.np]; exact a, by simp only [dep]; omega, by simp only [smb]; exact b, by simp only [szb]; omega⟩⟩
theorem rp_map {α : Type} {k n m : Nat} (f : α → D) {xs : List α} (h : ∀ x ∈ xs, Rp k n (f x)) (hm : xs.length ≤ m) : Rp (k + 1) (m * (n + 2) + 3) (.lst (xs.map f)) ∧ Rp (k + 1) (m * (n + 2) + 3) (.tup (xs.map f)) :=
  rp_seq (fun d hd => by
    obtain ⟨x, hx, rfl⟩ := List.mem_map.mp hd
    exact h x hx) (by rw [List.length_map]; exact hm)
mutual
theorem nb_np : ∀ d : D, nb d = true → np d = true
  | .non, _ => rfl
  | .int _, _ => rfl
  | .str _, _ => rfl
  | .lst xs, h => by simp only [nb] at h; simp only [np]; exact nbs_nps xs h
  | .tup xs, h => by simp only [nb] at h; simp only [np]; exact nbs_nps xs h
  | .bl _, h => by simp [nb] at h
  | .dct _, h => by simp [nb] at h
  | .ref _, h => by simp [nb] at h
theorem nbs_nps : ∀ ds : List D, nbs ds = true → nps ds = true
  | [], _ => rfl
  | d :: ds, h => by
    obtain ⟨h1, h2⟩ := Bool.and_eq_true_iff.mp (show (nb d && nbs ds) = true from h)
    simp only [nps, nb_np d h1, nbs_nps ds h2, Bool.and_self]
end
theorem np_vw {S : Sto} {d : D} (h : np d = true) : vw S d = d := by cases d <;> first | rfl | (simp [np] at h)
theorem rp_ev (k : Nat) {p : Pg} (ok : p.Ok) {e : Ev} (h : e ∈ p.evs) : Rp (k + 1) 171 (evD e) := by
  obtain ⟨h1, h2⟩ := evs_small ok h
  refine (rp_seq (k := k) (n := 82) (m := 2) (fun d hd => ?_) (by simp)).2.mono (Nat.le_refl _) (by omega)
  simp only [List.mem_cons, List.not_mem_nil, or_false] at hd
  rcases hd with rfl | rfl
  · exact rp_name k h1
  · exact (rp_int k (by omega)).mono (Nat.le_refl _) (by omega)
end SS
end

section
set_option Elab.async false
set_option linter.all false
set_option maxRecDepth 100000
set_option autoImplicit false
set_option maxHeartbeats 4000000
namespace SS
open PySem PySem.Spec PyProof.Rows L2 FL
local macro_rules
  | `(tactic| simp_arith only [$xs,*]) => `(tactic| simp (config := { implicitDefEqProofs := false }) only [tn_ok, oR_some, nx_ok, ev_var, ev_c, ev_bin, ev_kBin1, ev_kBin2, ev_un, ev_kUn, ev_asB, ev_kB, ev_asT, ev_kT, ev_tAnd2, ev_kAndT, ev_kAndF, ev_tOr2, ev_kOrT, ev_kOrF, ev_not, ev_kNot, ev_eAnd2, ev_kAndE, ev_kAndET, ev_kAndEF, ev_eOr2, ev_kOrE, ev_kOrET, ev_kOrEF, ev_eNot1, ev_kNotE, ev_kNotE2, ev_if, ev_kIfT, ev_kIfF, ev_aNil, ev_aCons, ev_kCons, ev_kCons2, ev_aStar, ev_kStar, ev_kStar2, ev_kStar3, ev_eTup, ev_kTup, ev_kTup2, ev_eLst, ev_kLst, ev_kLst2, ev_eNewL, ev_kNewL, ev_kNewL2, ev_newD, ev_callP, ev_kCallP, ev_call, ev_kCall, ev_kCall2, ev_oNone, ev_oSome, ev_kO, ev_kO2, ev_sl, ev_kSl, ev_kSl2, ev_kSl3, ev_meth, ev_kM, ev_kM2, ev_kM3, ev_meth0, ev_kM0, ev_chain, ev_kCh, ev_kCh2, ev_kCh3T, ev_kCh3F, ev_kCh4, ev_kLs, ev_kComp, ev_comp, ev_kRef, ev_compM, ev_kComp2, ev_comp2, ev_iSeq, ev_kIt, ev_iRange, ev_kRg, ev_enT, ev_enL, ev_iEnum, items_lst, items_tup, items_str, ev_true, ev_ret, ev_kRet, ev_expr, ev_kEx, ev_asg, ev_kAsg, ev_kNx, ev_seq, ev_kSeqN, ev_kSeqR, ev_kSeqB, ev_kSeqC, ev_ifS, ev_kIfST, ev_kIfSF, ev_for, ev_kFor, ev_next, ev_retN, ev_break, ev_cont, ev_par, ev_kPar, ev_par3, ev_kPar3, ev_gName, ev_gTup, ev_gsNil, ev_gsCons, ev_kGs, ev_gSub, ev_kSub, ev_kSub2, ev_kSub3, ev_kSub4, ev_mut, ev_kMu, ev_kMu2, ev_kMu3, ev_kMu4, ev_catM, ev_kCat, ev_kCat2, ev_catR, vw_non, vw_bl, vw_int, vw_str, vw_lst, vw_tup, vw_dct, vw_ref, vwO_lst, vwO_dct, tru_bl, tru_int, tru_lst, tru_tup, tru_non, add_int, add_lst, add_tup, add_str, sub_int, neg_int, gt_int, ge_int, lt_int, le_int, len_lst, len_tup, len_dct, len_str, int_int, tuple_lst, tuple_tup, list_lst, list_tup, sl_lst, sl_tup, is_non, isnt_non, non_bl, non_int, non_str, non_lst, non_tup, non_non, int_int?, ref_ref?, alt_tup, alt_lst, isi_int_non, isi_int_bl, isi_int_int, isi_int_str, isi_int_lst, isi_int_tup, isi_bool_non, isi_bool_bl, isi_bool_int, isi_bool_str, isi_bool_lst, isi_bool_tup, isi_str_non, isi_str_bl, isi_str_int, isi_str_str, isi_str_lst, isi_str_tup, isi_tuple_non, isi_tuple_bl, isi_tuple_int, isi_tuple_str, isi_tuple_lst, isi_tuple_tup, isi_list_non, isi_list_bl, isi_list_int, isi_list_str, isi_list_lst, isi_list_tup, isi_dict_non, isi_dict_bl, isi_dict_int, isi_dict_str, isi_dict_lst, isi_dict_tup, tyIn_lst2, tyD_lst, tyIn_tup2, tyD_tup, tyIn_str, tyD_str, tyIn_dct, tyD_dct, ev_cStep, ev_kC, ev_kC2T, ev_kC2F, ev_kSome, ev_cStep2, ev_kD, ev_kD2T, ev_kD2F, ev_kD3, ev_lStep, ev_kL, List.getElem?_cons_zero, List.getElem?_cons_succ, Option.join_some, Option.bind_some, Option.map_some, wipeE, List.set_cons_zero, List.set_cons_succ, List.length_cons, List.length_nil, List.map_cons, List.map_nil, gAll, gDef, List.cons_append, List.nil_append, if_true, if_false, Bool.not_true, Bool.not_false, Nat.zero_add, Nat.reduceAdd, Nat.reduceLeDiff, and_true, and_self, true_and, reduceIte, Bool.false_eq_true, $xs,*])
/-! ## values that may or may not be events -/
def nr : D → Bool
  | .ref _ => false
  | .dct _ => false
  | _ => true
theorem nr_vw {S : Sto} {d : D} (h : nr d = true) : vw S d = d := by cases d <;> first | rfl | (simp [nr] at h)
def isStr : D → Bool
  | .str _ => true
  | _ => false
def isNat : D → Bool
  | .int i => decide (0 ≤ i)
  | _ => false
def nameOk (a : D) : Prop := ∀ n, a = .str n → okN n
def SpIntG (F : Fn) : Prop := ∀ (d : D) (S : Sto), nr d = true → F [d] S = .ok (.bl (match d with | .int _ => true | _ => false)) S
theorem is_integerG_ok : SpIntG (dBody false 1 B_is_integer) := by
  intro d S h
  show doneR false S (B_is_integer [some d] S) = _
  cases d <;> first | (simp_arith only [B_is_integer, done_eq]; done) | (simp [nr] at h)
def SpNumG (F : Fn) : Prop := ∀ (d : D) (S : Sto), nr d = true → F [d] S = .ok (.bl (isNat d)) S
theorem geD_int (i j : Int) : geD (.int i) (.int j) = some (.bl (decide (j ≤ i))) := rfl
theorem is_numberG_ok {F1 : Fn} (h1 : SpIntG F1) : SpNumG (dBody false 1 (B_is_number F1)) := by
  intro d S h
  have e := h1 d S h
  show doneR false S (B_is_number F1 [some d] S) = _
  cases d with
  | int i => simp_arith only [B_is_number, e, geD_int, done_eq, isNat]
  | ref n => simp [nr] at h
  | dct n => simp [nr] at h
  | _ => simp_arith only [B_is_number, e, done_eq, isNat]
def SpNameG (F : Fn) : Prop := ∀ (d : D) (S : Sto), nr d = true → nameOk d → F [d] S = .ok (.bl (isStr d)) S
theorem is_nameG_ok : SpNameG (dBody false 2 (B_is_name (.str letters) (.int 8))) := by
  intro d S h hn
  cases d with
  | str n => exact is_name_ok n S (hn n rfl)
  | ref n => simp [nr] at h
  | dct n => simp [nr] at h
  | non =>
    show doneR false S (B_is_name (.str letters) (.int 8) [some .non, none] S) = _
    simp_arith only [B_is_name, done_eq, isStr]
  | bl b =>
    show doneR false S (B_is_name (.str letters) (.int 8) [some (.bl b), none] S) = _
    simp_arith only [B_is_name, done_eq, isStr]
  | int i =>
    show doneR false S (B_is_name (.str letters) (.int 8) [some (.int i), none] S) = _
    simp_arith only [B_is_name, done_eq, isStr]
  | lst xs =>
    show doneR false S (B_is_name (.str letters) (.int 8) [some (.lst xs), none] S) = _
    simp_arith only [B_is_name, done_eq, isStr]
  | tup xs =>
    show doneR false S (B_is_name (.str letters) (.int 8) [some (.tup xs), none] S) = _
    simp_arith only [B_is_name, done_eq, isStr]
def Like : D → Prop
  | .ref _ => False
  | .dct _ => False
  | .tup xs => xs.length ≤ 1000000 ∧ ∀ a b, xs = [a, b] → nr a = true ∧ nr b = true ∧ nameOk a
  | _ => True
theorem like_nr {d : D} (h : Like d) : nr d = true := by cases d <;> first | rfl | exact h.elim
def evOf : D → Option Ev
  | .tup [.str n, .int k] => if 0 ≤ k then some (n, k.toNat) else none
  | _ => none
def isEvB (p : Pg) (d : D) : Bool := match evOf d with
  | some e => decide (e ∈ p.evs)
  | none => false
theorem evOf_eq {d : D} {e : Ev} (h : evOf d = some e) : d = evD e := by
  unfold evOf at h
  split at h
  · split at h
    · rename_i hk
      cases h
      show D.tup _ = D.tup _
      rw [show ((_, Int.toNat _) : Ev).2 = Int.toNat _ from rfl, Int.toNat_of_nonneg hk]
    · cases h
  · cases h
theorem evOf_len {xs : List D} (h : ¬ xs.length = 2) : evOf (.tup xs) = none := by
  unfold evOf
  split
  · rename_i q
    injection q with q
    subst q
    exact absurd rfl h
  · rfl
theorem evOf_ev (e : Ev) : evOf (evD e) = some e := by
  unfold evOf evD
  simp
theorem evs_iff {p : Pg} (ok : p.Ok) {e : Ev} : e ∈ p.evs ↔ ∃ as, p.ps[p.pi e.1]? = some (e.1, as) ∧ e.2 < as.length := by
  refine ⟨evs_at ok, fun ⟨as, g1, g2⟩ => ?_⟩
  unfold Pg.evs
  exact List.mem_flatMap.mpr ⟨(e.1, as), List.mem_of_getElem? g1, List.mem_map.mpr ⟨e.2, List.mem_range.mpr g2, rfl⟩⟩
def SpEventG (F : Fn) : Prop := ∀ (p : Pg) (d : D) (S : Sto), p.Ok → Like d → F [p.d, d] S = .ok (.bl (isEvB p d)) S
open Classical in
theorem in_strsB (x : Str) (xs : List Str) : inD (.str x) (.lst (xs.map D.str)) = some (.bl (decide (x ∈ xs))) := by
  rw [inD_pn (.inl rfl) ((pk_strs xs).pn (by omega)) (pn_str x)]
  congr 2
  by_cases h : x ∈ xs
  · rw [decide_eq_true h]; exact decide_eq_true (List.mem_map_of_mem h)
  · rw [decide_eq_false h]; exact decide_eq_false fun z => by
      obtain ⟨y, hy, e⟩ := List.mem_map.mp z
      cases e
      exact h hy
theorem two_of {xs : List D} (h : xs.length = 2) : ∃ a b, xs = [a, b] := by
  match xs, h with
  | [a, b], _ => exact ⟨a, b, rfl⟩
theorem ltD_int (i j : Int) : ltD (.int i) (.int j) = some (.bl (decide (i < j))) := rfl
open Classical in
theorem is_event_ofG_ok {F1 F2 F3 F4 : Fn} (h1 : SpNameG F1) (h2 : SpNumG F2) (h3 : SpNames F3) (h4 : SpSpot F4) : SpEventG (dBody false 2 (B_is_event_of F1 F2 F3 F4)) := by
  intro p d S ok hd
  show doneR false S (B_is_event_of F1 F2 F3 F4 [some p.d, some d] S) = _
  cases d with
  | ref n => exact hd.elim
  | dct n => exact hd.elim
  | tup xs =>
    obtain ⟨hl, hab⟩ := hd
    by_cases h2' : xs.length = 2
    · obtain ⟨a, b, rfl⟩ := two_of h2'
      obtain ⟨na, nb', hna⟩ := hab a b rfl
      have e1 := h1 a S na hna
      have e2 := h2 b S nb'
      have c1 : ((2 : Nat) : Int) = 2 := rfl
      cases ha : isStr a with
      | false =>
        have : isEvB p (.tup [a, b]) = false := by
          unfold isEvB evOf
          cases a <;> first | rfl | (simp [isStr] at ha)
        rw [this]
        rw [ha] at e1
        simp_arith only [B_is_event_of, ixD_tup, atI_0, atI_1, neD_int, c1, beq_self_eq_true, e1, done_eq]
      | true =>
        rw [ha] at e1
        cases hb : isNat b with
        | false =>
          have : isEvB p (.tup [a, b]) = false := by
            unfold isEvB evOf
            cases a with
            | str n =>
              cases b with
              | int k =>
                have hk : ¬ (0 : Int) ≤ k := of_decide_eq_false hb
                simp [hk]
              | _ => rfl
            | _ => rfl
          rw [this]
          rw [hb] at e2
          simp_arith only [B_is_event_of, ixD_tup, atI_0, atI_1, neD_int, c1, beq_self_eq_true, e1, e2, done_eq]
        | true =>
          rw [hb] at e2
          cases a with
          | str n =>
            cases b with
            | int k =>
              have hk : (0 : Int) ≤ k := of_decide_eq_true hb
              have e3 := h3 p S ok
              have i3 := in_strsB n (p.ps.map (·.1))
              have ie : isEvB p (.tup [.str n, .int k]) = decide ((n, k.toNat) ∈ p.evs) := by
                unfold isEvB evOf
                simp only [if_pos hk]
              rw [ie]
              by_cases hn : n ∈ p.ps.map (·.1)
              · rw [decide_eq_true hn] at i3
                have e4 := h4 p n S ok hn
                obtain ⟨as, g1⟩ := pi_get hn
                have c2 : decide (k < ((as.map Arw.d).length : Int)) = decide ((n, k.toNat) ∈ p.evs) := by
                  rw [Bool.eq_iff_iff, decide_eq_true_iff, decide_eq_true_iff, evs_iff ok, List.length_map]
                  constructor
                  · intro z
                    exact ⟨as, g1, by simp only; omega⟩
                  · rintro ⟨as', g1', z⟩
                    simp only at g1' z
                    rw [g1] at g1'
                    cases g1'
                    omega
                rw [pgD] at e3 e4 ⊢
                simp_arith only [B_is_event_of, ixD_tup, atI_0, atI_1, atI_2, neD_int, c1, beq_self_eq_true, e1, e2, e3, e4, i3, atI_nat (get_party g1), partyD, ltD_int, c2, done_eq]
              · rw [decide_eq_false hn] at i3
                have c2 : decide ((n, k.toNat) ∈ p.evs) = false := decide_eq_false fun z => by
                  obtain ⟨z1, _⟩ := evs_mem ok z
                  exact hn z1
                rw [c2]
                simp_arith only [B_is_event_of, ixD_tup, atI_0, atI_1, neD_int, c1, beq_self_eq_true, e1, e2, e3, i3, done_eq]
            | _ => simp [isNat] at hb
          | _ => simp [isStr] at ha
    · have c1 : (((xs.length : Nat) : Int) == (2 : Int)) = false := by
        rw [beq_eq_false_iff_ne]
        omega
      have : isEvB p (.tup xs) = false := by
        unfold isEvB
        rw [evOf_len h2']
      rw [this]
      simp_arith only [B_is_event_of, neD_int, c1, done_eq]
  | _ => simp_arith only [B_is_event_of, done_eq]; rfl
/-! ## faults -/
def faultW (p : Pg) (s : St) (d : D) : Str := match evOf d with
  | some e => if e ∈ p.evs then (if stE p s e = true then (if canE p s e = true then "" else "look") else "place") else "event"
  | none => "event"
theorem canE_eq {p : Pg} {s : St} {e : Ev} {a : Arw} (h : p.arw e = some a) : canE p s e = canCome p s e a := by unfold canE; rw [h]
theorem stE_eq' {p : Pg} {s : St} {e : Ev} {a : Arw} (h : p.arw e = some a) : stE p s e = stands p s e a := by unfold stE; rw [h]
def SpFaultG (F : Fn) : Prop := ∀ (p : Pg) (s : St) (d : D) (S : Sto), p.Ok → s.Ok p → Like d → F [p.d, s.d, d] S = .ok (.str (faultW p s d)) S
theorem fault_inG_ok {F1 F2 F3 : Fn} (h1 : SpCan F1) (h2 : SpEventG F2) (h3 : SpStands F3) : SpFaultG (dBody false 3 (B_fault_in F1 F2 F3)) := by
  intro p s d S ok so hd
  have e2 := h2 p d S ok hd
  show doneR false S (B_fault_in F1 F2 F3 [some p.d, some s.d, some d] S) = _
  unfold faultW
  unfold isEvB at e2
  cases ho : evOf d with
  | none =>
    rw [ho] at e2
    simp_arith only [B_fault_in, e2, done_eq]
  | some e =>
    rw [ho] at e2
    have hde := evOf_eq ho
    subst hde
    by_cases he : e ∈ p.evs
    · obtain ⟨hn, a, ha⟩ := evs_mem ok he
      have e1 := h1 p s e a S ok so hn ha
      have e3 := h3 p s e a S ok so hn ha
      rw [← canE_eq ha] at e1
      rw [← stE_eq' ha] at e3
      simp only [if_pos he]
      simp only [decide_eq_true he] at e2
      cases hs : stE p s e with
      | false =>
        rw [hs] at e3
        simp_arith only [B_fault_in, e2, e3, done_eq, Bool.false_eq_true, if_false]
      | true =>
        rw [hs] at e3
        cases hc : canE p s e with
        | false =>
          rw [hc] at e1
          simp_arith only [B_fault_in, e1, e2, e3, done_eq, Bool.false_eq_true, if_false, if_true]
        | true =>
          rw [hc] at e1
          simp_arith only [B_fault_in, e1, e2, e3, done_eq, if_true]
    · simp only [if_neg he]
      simp only [decide_eq_false he] at e2
      simp_arith only [B_fault_in, e2, done_eq]
def evGet (d : D) : Ev := (evOf d).getD ("", 0)
def faultL (p : Pg) : St → Nat → List D → Option (Str × Nat)
  | _, _, [] => none
  | s, k, d :: ds => if faultW p s d = "" then faultL p (afterE p s (evGet d)) (k + 1) ds else some (faultW p s d, k)
def faultD : Option (Str × Nat) → D
  | none => .non
  | some (w, k) => .tup [.str w, .int (k : Nat)]
theorem faultW_ok {p : Pg} {s : St} {d : D} (h : faultW p s d = "") : ∃ e, d = evD e ∧ e ∈ p.evs ∧ canE p s e = true := by
  unfold faultW at h
  cases ho : evOf d with
  | none => rw [ho] at h; simp only at h; exact absurd h (by decide +kernel)
  | some e =>
    rw [ho] at h
    simp only at h
    refine ⟨e, evOf_eq ho, ?_⟩
    split at h
    · rename_i he
      refine ⟨he, ?_⟩
      split at h
      · split at h
        · assumption
        · exact absurd h (by decide +kernel)
      · exact absurd h (by decide +kernel)
    · exact absurd h (by decide +kernel)
theorem canE_st {p : Pg} {s : St} {e : Ev} (h : canE p s e = true) : stE p s e = true := by
  unfold canE at h
  unfold stE
  split at h
  · rename_i a ha
    unfold canCome at h
    rw [Bool.and_eq_true] at h
    exact h.1
  · cases h
theorem faultW_ev {p : Pg} {s : St} {e : Ev} (he : e ∈ p.evs) (hc : canE p s e = true) : faultW p s (evD e) = "" := by
  unfold faultW
  rw [evOf_ev]
  simp only [if_pos he, if_pos (canE_st hc), if_pos hc]
theorem evGet_ev (e : Ev) : evGet (evD e) = e := by unfold evGet; rw [evOf_ev]; rfl
def runB (F1 F3 : Fn) : FSx := (sSeq (sAsg (eCall 3 0 gAll F1 (aCons (eVar 0) (aCons (eVar 2) (aCons (eVar 4) aNil))) aNil) (gName' 5)) (sSeq (sIf (asB (eBin neD (eVar 5) (eC (.str "")))) (sRet (eTup (aCons (eVar 5) (aCons (eVar 3) aNil)))) sNext) (sAsg (eCall 3 0 gAll F3 (aCons (eVar 0) (aCons (eVar 2) (aCons (eVar 4) aNil))) aNil) (gName' 2))))
theorem enumG_loop {p : Pg} (ok : p.Ok) {F1 F3 : Fn} (h1 : SpFaultG F1) (h3 : SpBehind F3) (x1 : D) (S : Sto) :
    ∀ (ds : List D) (k : Nat) (s : St) (x3 x4 x5 : Option D), s.Ok p → (∀ d ∈ ds, Like d) → 
      (faultL p s k ds = none → ∃ r', loopD (gTup' 2 (gsCons (gName' 3) (gsCons (gName' 4) gsNil))) (runB F1 F3) (((List.range' k ds.length).zip ds).map fun q => .tup [.int (q.1 : Nat), q.2]) [some p.d, some x1, some s.d, x3, x4, x5] S = .ok (.nx r') S) ∧
      (∀ q, faultL p s k ds = some q → loopD (gTup' 2 (gsCons (gName' 3) (gsCons (gName' 4) gsNil))) (runB F1 F3) (((List.range' k ds.length).zip ds).map fun q => .tup [.int (q.1 : Nat), q.2]) [some p.d, some x1, some s.d, x3, x4, x5] S = .ok (.rt (faultD (some q))) S)
  | [], k, s, x3, x4, x5, _, _ => ⟨fun _ => ⟨_, rfl⟩, fun q h => by cases h⟩
  | d :: ds, k, s, x3, x4, x5, so, hd => by
    have e1 := h1 p s d S ok so (hd d List.mem_cons_self)
    rw [List.length_cons, List.range'_succ, List.zip_cons_cons, List.map_cons]
    unfold faultL
    by_cases hw : faultW p s d = ""
    · rw [if_pos hw]
      rw [hw] at e1
      obtain ⟨e, rfl, he, hc⟩ := faultW_ok hw
      obtain ⟨hn, a, ha⟩ := evs_mem ok he
      have e3 := h3 p s e a S ok so hn ha
      rw [← afterE_eq ha] at e3
      rw [evGet_ev]
      have ih := enumG_loop ok h1 h3 x1 S ds (k + 1) (afterE p s e) (some (.int (k : Nat))) (some (evD e)) (some (.str "")) (afterE_ok so e) (fun x hx => hd x (List.mem_cons_of_mem _ hx))
      have st : lStep (gTup' 2 (gsCons (gName' 3) (gsCons (gName' 4) gsNil))) (runB F1 F3) (.tup [.int (k : Nat), evD e]) [some p.d, some x1, some s.d, x3, x4, x5] S = .ok (.nx [some p.d, some x1, some (afterE p s e).d, some (.int (k : Nat)), some (evD e), some (.str "")]) S := by
        simp_arith only [runB, e1, e3, neD_str, beq_self_eq_true]
      rw [loopD_step st]
      exact ih
    · rw [if_neg hw]
      have hwb : (faultW p s d == ("" : Str)) = false := beq_eq_false_iff_ne.mpr hw
      refine ⟨fun h => (by cases h), fun q h => ?_⟩
      cases h
      rw [loopD_cons]
      have st : lStep (gTup' 2 (gsCons (gName' 3) (gsCons (gName' 4) gsNil))) (runB F1 F3) (.tup [.int (k : Nat), d]) [some p.d, some x1, some s.d, x3, x4, x5] S = .ok (.rt (faultD (some (faultW p s d, k)))) S := by
        simp_arith only [runB, e1, neD_str, hwb, few2, faultD]
      simp only [bnd, st]
      rfl
theorem enum_mapG (ds : List D) : enumL ds = ((List.range' 0 ds.length).zip ds).map fun q => .tup [.int (q.1 : Nat), q.2] := by
  unfold enumL
  rw [List.zip, List.map_zipWith, List.range_eq_range']
def SpRunFaultG (F : Fn) : Prop := ∀ (p : Pg) (ds : List D) (S : Sto), p.Ok → (∀ d ∈ ds, Like d) → F [p.d, .tup ds] S = .ok (faultD (faultL p p.begun 0 ds)) S
theorem run_faultG_ok {F1 F2 F3 : Fn} (h1 : SpFaultG F1) (h2 : SpFirst F2) (h3 : SpBehind F3) : SpRunFaultG (dBody false 6 (B_run_fault F1 F2 F3)) := by
  intro p ds S ok hd
  show doneR false S (B_run_fault F1 F2 F3 [some p.d, some (.tup ds), none, none, none, none] S) = _
  obtain ⟨l1, l2⟩ := enumG_loop ok h1 h3 (.tup ds) S ds 0 p.begun none none none (begun_ok p) hd
  simp only [runB] at l1 l2
  cases hf : faultL p p.begun 0 ds with
  | none =>
    obtain ⟨r', e⟩ := l1 hf
    simp_arith only [B_run_fault, h2 p S ok, enum_mapG, e, done_eq, faultD]
  | some q =>
    have e := l2 q hf
    simp_arith only [B_run_fault, h2 p S ok, enum_mapG, e, done_eq]
def SpRunG (F : Fn) : Prop := ∀ (p : Pg) (ds : List D) (S : Sto), p.Ok → (∀ d ∈ ds, Like d) → F [p.d, .tup ds] S = .ok (.bl (faultL p p.begun 0 ds).isNone) S
theorem is_runG_ok {F1 : Fn} (h1 : SpRunFaultG F1) : SpRunG (dBody false 2 (B_is_run F1)) := by
  intro p ds S ok hd
  have e1 := h1 p ds S ok hd
  show doneR false S (B_is_run F1 [some p.d, some (.tup ds)] S) = _
  cases hf : faultL p p.begun 0 ds with
  | none =>
    rw [hf] at e1
    simp only [faultD] at e1
    simp_arith only [B_is_run, e1, done_eq, Option.isNone_none]
  | some q =>
    rw [hf] at e1
    simp only [faultD] at e1
    simp_arith only [B_is_run, e1, done_eq, Option.isNone_some]
theorem faultL_road {p : Pg} (ds : List D) : ∀ (es : List Ev) (s : St) (k : Nat), okRoad p s es → faultL p s k (es.map evD ++ ds) = faultL p (lastSt p s es) (k + es.length) ds
  | [], s, k, _ => rfl
  | e :: es, s, k, ⟨h1, h2, h3⟩ => by
    rw [List.map_cons, List.cons_append]
    show (if faultW p s (evD e) = "" then faultL p (afterE p s (evGet (evD e))) (k + 1) (es.map evD ++ ds) else _) = _
    rw [if_pos (faultW_ev h1 h2), evGet_ev, faultL_road ds es (afterE p s e) (k + 1) h3, List.length_cons]
    show faultL p (lastSt p (afterE p s e) es) (k + 1 + es.length) ds = faultL p (lastSt p (afterE p s e) es) (k + (es.length + 1)) ds
    rw [Nat.add_assoc, Nat.add_comm 1]
def isOpenB (p : Pg) (s : St) (d : D) : Bool := match evOf d with
  | some e => decide (e ∈ p.evs) && canE p s e
  | none => false
theorem faultL_one (p : Pg) (s : St) (k : Nat) (d : D) : (faultL p s k [d]).isNone = isOpenB p s d := by
  show (if faultW p s d = "" then none else some (faultW p s d, k)).isNone = _
  unfold isOpenB faultW
  cases evOf d with
  | none => simp only; rw [if_neg (by decide +kernel)]; rfl
  | some e =>
    simp only
    by_cases he : e ∈ p.evs
    · rw [if_pos he, decide_eq_true he, Bool.true_and]
      cases hc : canE p s e with
      | true => rw [if_pos (canE_st hc), if_pos rfl, if_pos rfl]; rfl
      | false =>
        cases hs : stE p s e with
        | true => rw [if_pos rfl, if_neg Bool.false_ne_true, if_neg (by decide +kernel)]; rfl
        | false => rw [if_neg Bool.false_ne_true, if_neg (by decide +kernel)]; rfl
    · rw [if_neg he, decide_eq_false he, Bool.false_and, if_neg (by decide +kernel)]; rfl
theorem isOpenB_mem {p : Pg} {s : St} {d : D} : isOpenB p s d = true ↔ d ∈ (p.evs.filter (canE p s)).map evD := by
  unfold isOpenB
  constructor
  · intro h
    cases ho : evOf d with
    | none => rw [ho] at h; cases h
    | some e =>
      rw [ho] at h
      simp only [Bool.and_eq_true, decide_eq_true_iff] at h
      rw [evOf_eq ho]
      exact List.mem_map_of_mem (List.mem_filter.mpr h)
  · intro h
    obtain ⟨e, he, rfl⟩ := List.mem_map.mp h
    rw [evOf_ev]
    simp only [Bool.and_eq_true, decide_eq_true_iff]
    exact List.mem_filter.mp he
theorem like_ev {p : Pg} (ok : p.Ok) {e : Ev} (h : e ∈ p.evs) : Like (evD e) :=
  ⟨by simp, fun a b hab => by
    cases hab
    exact ⟨rfl, rfl, fun n hn => by cases hn; exact (evs_small ok h).1⟩⟩
/-! ## all short runs -/
def runD (p : Pg) (es : List Ev) : D := .tup [.tup (es.map evD), (lastSt p p.begun es).d]
def opn (p : Pg) (es : List Ev) : List Ev := p.evs.filter (canE p (lastSt p p.begun es))
def SpRuns (F : Fn) : Prop := ∀ (p : Pg) (S : Sto), p.Ok → ∃ rs : List (List Ev), (∀ es ∈ rs, okRoad p p.begun es ∧ es.length ≤ 6) ∧ F [p.d] S = .ok (.lst (rs.map (runD p))) S
def longer (p : Pg) (rs : List (List Ev)) : List (List Ev) := rs.flatMap fun es => (opn p es).map fun e => es ++ [e]
theorem longer_len {p : Pg} (ok : p.Ok) (rs : List (List Ev)) : (longer p rs).length ≤ rs.length * 1000 := len_flat _ 1000 rs fun es _ => by
  rw [List.length_map]
  exact Nat.le_trans (List.length_filter_le ..) (len_evs ok)
theorem longer_ok {p : Pg} {rs : List (List Ev)} {n : Nat} (h : ∀ es ∈ rs, okRoad p p.begun es ∧ es.length ≤ n) : ∀ es ∈ longer p rs, okRoad p p.begun es ∧ es.length ≤ n + 1 := fun es hes => by
  obtain ⟨e0, h0, hm⟩ := List.mem_flatMap.mp hes
  obtain ⟨e, he, rfl⟩ := List.mem_map.mp hm
  obtain ⟨m1, m2⟩ := List.mem_filter.mp he
  obtain ⟨r1, r2⟩ := h e0 h0
  exact ⟨okRoad_app r1 m1 m2, by rw [List.length_append, List.length_singleton]; omega⟩
theorem runs1 {F1 F2 F3 : Fn} (h1 : SpBehind F1) (h3 : SpOpen F3) {p : Pg} (ok : p.Ok) {S : Sto} {x1 x2 x3 : Option D} : ∀ (rs : List (List Ev)) (acc : List (List Ev)) (x5 x6 x7 : Option D), (∀ es ∈ rs, okRoad p p.begun es ∧ es.length ≤ 6) → acc.length + rs.length * 1000 ≤ 1000000 →
    ∃ y5 y6 y7, loopD (gTup' 2 (gsCons (gName' 5) (gsCons (gName' 6) gsNil))) (B__law_runs_L1 F1 F2 F3) (rs.map (runD p)) [some p.d, x1, x2, x3, some (.lst (acc.map (runD p))), x5, x6, x7] S = .ok (.nx [some p.d, x1, x2, x3, some (.lst ((acc ++ longer p rs).map (runD p))), y5, y6, y7]) S
  | [], acc, x5, x6, x7, _, _ => ⟨x5, x6, x7, by simp [longer]; rfl⟩
  | es :: rs, acc, x5, x6, x7, h, hl => by
    obtain ⟨r1, r2⟩ := h es List.mem_cons_self
    rw [List.length_cons] at hl
    have so : (lastSt p p.begun es).Ok p := lastSt_ok (begun_ok p)
    have lo : (opn p es).length ≤ 1000 := Nat.le_trans (List.length_filter_le ..) (len_evs ok)
    have e3 := h3 p (lastSt p p.begun es) S ok so
    rw [show p.evs.filter (canE p (lastSt p p.begun es)) = opn p es from rfl] at e3
    have c1 := compD_map (S := S) (b := gName' 7) (t := tTrue) (e := B__law_runs_E1 F1 F2 F3) (r0 := [some p.d, x1, x2, x3, some (.lst (acc.map (runD p))), some (.tup (es.map evD)), some (lastSt p p.begun es).d, none]) evD (fun e => runD p (es ++ [e])) (opn p es) (fun e he => by
      obtain ⟨m1, m2⟩ := List.mem_filter.mp he
      obtain ⟨hn, a, ha⟩ := evs_mem ok m1
      have e1 := h1 p (lastSt p p.begun es) e a S ok so hn ha
      rw [← afterE_eq ha, ← lastSt_app] at e1
      have ap : es.map evD ++ [evD e] = (es ++ [e]).map evD := by simp
      have cp : (es.map evD).length + 1 ≤ 1000000 := by rw [List.length_map]; omega
      simp_arith only [B__law_runs_E1, few1, cap_ok cp, ap, e1, few2, runD]) (by omega)
    have ad : cap ((acc.map (runD p)).length + ((opn p es).map fun e => runD p (es ++ [e])).length) (D.lst (acc.map (runD p) ++ (opn p es).map fun e => runD p (es ++ [e]))) = some (.lst ((acc ++ (opn p es).map fun e => es ++ [e]).map (runD p))) := by
      rw [cap_ok (by rw [List.length_map, List.length_map]; omega), List.map_append, List.map_map]
      rfl
    obtain ⟨y5, y6, y7, ih⟩ := runs1 (F2 := F2) h1 h3 ok (S := S) (x1 := x1) (x2 := x2) (x3 := x3) rs (acc ++ (opn p es).map fun e => es ++ [e]) (some (.tup (es.map evD))) (some (lastSt p p.begun es).d) x7 (fun x hx => h x (List.mem_cons_of_mem _ hx)) (by rw [List.length_append, List.length_map]; omega)
    refine ⟨y5, y6, y7, ?_⟩
    have st : lStep (gTup' 2 (gsCons (gName' 5) (gsCons (gName' 6) gsNil))) (B__law_runs_L1 F1 F2 F3) (runD p es) [some p.d, x1, x2, x3, some (.lst (acc.map (runD p))), x5, x6, x7] S = .ok (.nx [some p.d, x1, x2, x3, some (.lst ((acc ++ (opn p es).map fun e => es ++ [e]).map (runD p))), some (.tup (es.map evD)), some (lastSt p p.begun es).d, x7]) S := by
      rw [show runD p es = .tup [.tup (es.map evD), (lastSt p p.begun es).d] from rfl]
      simp_arith only [B__law_runs_L1, e3, c1, ad]
    rw [List.map_cons, loopD_step st, ih]
    simp [longer]
theorem runs2 {F1 F2 F3 : Fn} (h1 : SpBehind F1) (h3 : SpOpen F3) {p : Pg} (ok : p.Ok) {S : Sto} : ∀ (ks : List Nat) (n : Nat) (fs ns : List (List Ev)) (x3 x4 x5 x6 x7 : Option D), ks.length + n ≤ 6 → fs.length ≤ 40 → ns.length ≤ 40 → (∀ es ∈ fs, okRoad p p.begun es ∧ es.length ≤ n) → (∀ es ∈ ns, okRoad p p.begun es ∧ es.length ≤ n) →
    ∃ rs : List (List Ev), (∀ es ∈ rs, okRoad p p.begun es ∧ es.length ≤ 6) ∧
      (loopD (gName' 3) (B__law_runs_L2 F1 F2 F3) (ks.map fun k => D.int (k : Nat)) [some p.d, some (.lst (fs.map (runD p))), some (.lst (ns.map (runD p))), x3, x4, x5, x6, x7] S = .ok (.rt (.lst (rs.map (runD p)))) S ∨
       ∃ y2 y3 y4 y5 y6 y7, loopD (gName' 3) (B__law_runs_L2 F1 F2 F3) (ks.map fun k => D.int (k : Nat)) [some p.d, some (.lst (fs.map (runD p))), some (.lst (ns.map (runD p))), x3, x4, x5, x6, x7] S = .ok (.nx [some p.d, some (.lst (rs.map (runD p))), y2, y3, y4, y5, y6, y7]) S)
  | [], n, fs, ns, x3, x4, x5, x6, x7, h, hf, _, hfs, _ => ⟨fs, fun es hes => ⟨(hfs es hes).1, Nat.le_trans (hfs es hes).2 (by rw [List.length_nil] at h; omega)⟩, .inr ⟨_, _, _, _, _, _, rfl⟩⟩
  | k :: ks, n, fs, ns, x3, x4, x5, x6, x7, h, hf, hn, hfs, hns => by
    rw [List.length_cons] at h
    obtain ⟨y5, y6, y7, l1⟩ := runs1 (F2 := F2) h1 h3 ok (S := S) (x1 := some (.lst (fs.map (runD p)))) (x2 := some (.lst (ns.map (runD p)))) (x3 := some (.int (k : Nat))) ns [] x5 x6 x7 (fun es hes => ⟨(hns es hes).1, Nat.le_trans (hns es hes).2 (by omega)⟩) (by rw [List.length_nil]; omega)
    rw [List.nil_append, List.map_nil] at l1
    have ll := longer_len ok ns
    have lk := longer_ok hns
    by_cases hb : fs.length + (longer p ns).length > 40
    · have c : decide ((40 : Int) < (((fs.map (runD p)).length : Nat) : Int) + ((((longer p ns).map (runD p)).length : Nat) : Int)) = true := decide_eq_true (by rw [List.length_map, List.length_map]; omega)
      refine ⟨fs, fun es hes => ⟨(hfs es hes).1, Nat.le_trans (hfs es hes).2 (by omega)⟩, .inl ?_⟩
      have st : lStep (gName' 3) (B__law_runs_L2 F1 F2 F3) (.int (k : Nat)) [some p.d, some (.lst (fs.map (runD p))), some (.lst (ns.map (runD p))), x3, x4, x5, x6, x7] S = .ok (.rt (.lst (fs.map (runD p)))) S := by
        simp_arith only [B__law_runs_L2, few0, l1, gtD_int, c]
      rw [List.map_cons, loopD_cons]
      simp only [bnd, st]
      rfl
    · have c : decide ((40 : Int) < (((fs.map (runD p)).length : Nat) : Int) + ((((longer p ns).map (runD p)).length : Nat) : Int)) = false := decide_eq_false (by rw [List.length_map, List.length_map]; omega)
      have ad : cap ((fs.map (runD p)).length + ((longer p ns).map (runD p)).length) (D.lst (fs.map (runD p) ++ (longer p ns).map (runD p))) = some (.lst ((fs ++ longer p ns).map (runD p))) := by
        rw [cap_ok (by rw [List.length_map, List.length_map]; omega), List.map_append]
      obtain ⟨rs, hrs, ih⟩ := runs2 (F2 := F2) h1 h3 ok (S := S) ks (n + 1) (fs ++ longer p ns) (longer p ns) (some (.int (k : Nat))) (some (.lst ((longer p ns).map (runD p)))) y5 y6 y7 (by omega) (by rw [List.length_append]; omega) (by omega)
        (fun es hes => by
          rcases List.mem_append.mp hes with hes | hes
          · exact ⟨(hfs es hes).1, Nat.le_trans (hfs es hes).2 (by omega)⟩
          · exact lk es hes) lk
      refine ⟨rs, hrs, ?_⟩
      have st : lStep (gName' 3) (B__law_runs_L2 F1 F2 F3) (.int (k : Nat)) [some p.d, some (.lst (fs.map (runD p))), some (.lst (ns.map (runD p))), x3, x4, x5, x6, x7] S = .ok (.nx [some p.d, some (.lst ((fs ++ longer p ns).map (runD p))), some (.lst ((longer p ns).map (runD p))), some (.int (k : Nat)), some (.lst ((longer p ns).map (runD p))), y5, y6, y7]) S := by
        simp_arith only [B__law_runs_L2, few0, l1, gtD_int, c, ad]
      rw [List.map_cons, loopD_step st]
      exact ih
theorem law_runs_ok {F1 F2 F3 : Fn} (h1 : SpBehind F1) (h2 : SpFirst F2) (h3 : SpOpen F3) : SpRuns (dBody false 8 (B__law_runs F1 F2 F3)) := by
  intro p S ok
  have e2 := h2 p S ok
  obtain ⟨rs, hrs, l⟩ := runs2 (F2 := F2) h1 h3 ok (S := S) (List.range 6) 0 [[]] [[]] none none none none none (by simp) (by simp) (by simp) (fun es hes => by simp at hes; subst hes; exact ⟨trivial, Nat.le_refl _⟩) (fun es hes => by simp at hes; subst hes; exact ⟨trivial, Nat.le_refl _⟩)
  refine ⟨rs, hrs, ?_⟩
  show doneR false S (B__law_runs F1 F2 F3 [some p.d, none, none, none, none, none, none, none] S) = _
  have r0 : ([[]] : List (List Ev)).map (runD p) = [.tup [.tup [], p.begun.d]] := rfl
  have rg := range1 (n := 6) (by omega)
  rw [show (((6 : Nat) : Int)) = (6 : Int) from rfl] at rg
  rw [r0] at l
  rcases l with e | ⟨y2, y3, y4, y5, y6, y7, e⟩
  · simp_arith only [B__law_runs, few0, few1, few2, e2, rg, e, done_eq]
  · simp_arith only [B__law_runs, few0, few1, few2, e2, rg, e, done_eq]
def SpLets (F : Fn) : Prop := ∀ (p : Pg) (es : List Ev) (S : Sto), p.Ok → okRoad p p.begun es → es.length ≤ 10000 → F [p.d, .tup (es.map evD)] S = .ok (.int (es.length : Nat)) S
theorem lets_run_ok {F1 : Fn} (h1 : SpRunFault F1) : SpLets (dBody false 5 (B_lets_run F1)) := by
  intro p es S ok hr hl
  have e1 := h1 p es S ok hr
  show doneR false S (B_lets_run F1 [some p.d, some (.tup (es.map evD)), none, none, none] S) = _
  simp_arith only [B_lets_run, e1, List.length_map, cap_ok (show es.length ≤ 1000000 by omega), done_eq]
end SS
end

section
set_option Elab.async false
set_option linter.all false
set_option maxRecDepth 100000
set_option autoImplicit false
set_option maxHeartbeats 2000000
namespace K28
open PySem PySem.Spec PyProof.Rows L2 FL
def C_COUNTER_LOOKS : D := (.tup [(.str "same"), (.str "other")])
def C_EQUAL_WORDS : D := (.tup [(.str "same"), (.str "agree")])
def C_LETTERS : D := (.str "abcdefghijklmnopqrstuvwxyz")
def C_LONGEST_NAME : D := (.int 8)
def C_LOOK_WORDS : D := (.tup [(.str "same"), (.str "other"), (.str "agree"), (.str "differ"), (.str "newer"), (.str "elder")])
def C_ORDER_LOOKS : D := (.tup [(.str "newer"), (.str "elder")])
noncomputable def F__law_tape : List D → M D := dBody true 1 SS.B__law_tape
noncomputable def F__law_arrow : List D → M D := dBody false 5 SS.B__law_arrow
noncomputable def F__law_written : List D → M D := dBody false 11 (SS.B__law_written F__law_arrow)
noncomputable def F__law_draw : List D → M D := dBody false 6 SS.B__law_draw_2
noncomputable def F__law_names : List D → M D := dBody true 7 (SS.B__law_names F__law_draw)
noncomputable def F__law_table : List D → M D := dBody false 2 (SS.B__law_table F__law_names)
noncomputable def F__law_pairs : List D → M D := dBody false 5 SS.B__law_pairs
noncomputable def F__law_pick : List D → M D := dBody false 2 (SS.B__law_pick F__law_draw)
noncomputable def F__law_deed : List D → M D := dBody false 4 (SS.B__law_deed F__law_draw F__law_pairs F__law_pick)
noncomputable def F__law_plain : List D → M D := dBody false 1 SS.B__law_plain
noncomputable def F__law_grown : List D → M D := dBody false 8 (SS.B__law_grown F__law_deed F__law_draw F__law_plain)
noncomputable def F__law_free : List D → M D := dBody false 9 (SS.B__law_free F__law_draw F__law_grown F__law_pick)
noncomputable def F__law_scenes : List D → M D := dBody false 5 SS.B__law_scenes
noncomputable def F__law_program : List D → M D := dBody false 4 (SS.B__law_program F__law_draw F__law_free F__law_grown F__law_pick F__law_scenes F__law_table F__law_written)
noncomputable def F__law_begun : List D → M D := dBody false 1 SS.B__law_begun
noncomputable def F__law_at : List D → M D := dBody false 3 SS.B__law_at
noncomputable def F__law_arrow_of : List D → M D := dBody false 2 (SS.B__law_arrow_of F__law_at)
noncomputable def F__law_put : List D → M D := dBody false 3 SS.B__law_put
noncomputable def F__law_count : List D → M D := dBody false 3 (SS.B__law_count F__law_at)
noncomputable def F__law_stamp : List D → M D := dBody false 3 (SS.B__law_stamp F__law_at)
noncomputable def F__law_after : List D → M D := dBody false 11 (SS.B__law_after F__law_arrow_of F__law_at F__law_count F__law_put F__law_stamp)
noncomputable def F__law_events : List D → M D := dBody false 5 SS.B__law_events
noncomputable def F__law_stands : List D → M D := dBody false 3 (SS.B__law_stands F__law_arrow_of F__law_at)
noncomputable def F__law_gap : List D → M D := dBody false 3 (SS.B__law_gap F__law_count F__law_stamp)
noncomputable def F__law_is_look : List D → M D := dBody false 1 SS.B__law_is_look
noncomputable def F__law_is_true : List D → M D := dBody false 4 (SS.B__law_is_true F__law_gap F__law_is_look)
noncomputable def F__law_open : List D → M D := dBody false 4 (SS.B__law_open F__law_arrow_of F__law_events F__law_is_true F__law_stands)
noncomputable def F__law_runs : List D → M D := dBody false 8 (SS.B__law_runs F__law_after F__law_begun F__law_open)
noncomputable def F_all_events : List D → M D := dBody false 4 SS.B_all_events
noncomputable def F_party_names : List D → M D := dBody false 3 SS.B_party_names
noncomputable def F_party_spot : List D → M D := dBody false 2 (SS.B_party_spot F_party_names)
noncomputable def F_arrow_at : List D → M D := dBody false 2 (SS.B_arrow_at F_party_spot)
noncomputable def F_stands_at : List D → M D := dBody false 3 (SS.B_stands_at F_arrow_at F_party_spot)
noncomputable def F_is_true : List D → M D := dBody false 2 (SS.B_is_true C_EQUAL_WORDS C_ORDER_LOOKS)
noncomputable def F_slot_spot : List D → M D := dBody false 4 SS.B_slot_spot
noncomputable def F_owner_spot : List D → M D := dBody false 2 (SS.B_owner_spot F_slot_spot)
noncomputable def F_look_gap : List D → M D := dBody false 7 (SS.B_look_gap F_owner_spot F_slot_spot C_COUNTER_LOOKS)
noncomputable def F_can_come : List D → M D := dBody false 4 (SS.B_can_come F_arrow_at F_is_true F_look_gap F_stands_at C_LOOK_WORDS)
noncomputable def F_events_in : List D → M D := dBody false 3 (SS.B_events_in F_all_events F_can_come)
noncomputable def F_require_given : List D → M D := dBody false 3 SS.B_require_given
noncomputable def F_first_state : List D → M D := dBody false 4 SS.B_first_state
noncomputable def F_is_name : List D → M D := dBody false 2 (SS.B_is_name C_LETTERS C_LONGEST_NAME)
noncomputable def F_is_integer : List D → M D := dBody false 1 SS.B_is_integer
noncomputable def F_is_number : List D → M D := dBody false 1 (SS.B_is_number F_is_integer)
noncomputable def F_is_event_of : List D → M D := dBody false 2 (SS.B_is_event_of F_is_name F_is_number F_party_names F_party_spot)
noncomputable def F_fault_in : List D → M D := dBody false 3 (SS.B_fault_in F_can_come F_is_event_of F_stands_at)
noncomputable def F_put_at : List D → M D := dBody false 3 SS.B_put_at
noncomputable def F_state_behind : List D → M D := dBody false 10 (SS.B_state_behind F_arrow_at F_owner_spot F_party_spot F_put_at F_slot_spot)
noncomputable def F_run_fault : List D → M D := dBody false 6 (SS.B_run_fault F_fault_in F_first_state F_state_behind)
noncomputable def F_is_run : List D → M D := dBody false 2 (SS.B_is_run F_run_fault)
noncomputable def F_states_along : List D → M D := dBody false 4 (SS.B_states_along F_first_state F_state_behind)
noncomputable def F_state_after : List D → M D := dBody false 2 (SS.B_state_after F_is_run F_require_given F_states_along)
noncomputable def F_next_events : List D → M D := dBody false 2 (SS.B_next_events F_events_in F_state_after)
noncomputable def F_lets_run : List D → M D := dBody false 5 (SS.B_lets_run F_run_fault)
noncomputable def B_law_L1 : FSx := (sIf (asB (eBin neD (eCallP reprD (aCons (eCall 2 0 gAll F_is_run (aCons (eVar 2) (aCons (eBin addD (eVar 5) (eTup (aCons (eVar 8) aNil))) aNil)) aNil) aNil)) (eCallP reprD (aCons (eBin inD (eVar 8) (eVar 7)) aNil)))) (sRet (eC (.bl false))) sNext)
noncomputable def B_law_L2 : FSx := (sSeq (sAsg (eCall 2 0 gAll F__law_open (aCons (eVar 2) (aCons (eVar 6) aNil)) aNil) (gName' 7)) (sSeq (sIf (asB (eBin neD (eCallP reprD (aCons (eLst (aCons (eCall 2 0 gAll F_is_run (aCons (eVar 2) (aCons (eVar 5) aNil)) aNil) (aCons (eCall 2 0 gAll F_lets_run (aCons (eVar 2) (aCons (eVar 5) aNil)) aNil) aNil))) aNil)) (eCallP reprD (aCons (eLst (aCons (eC (.bl true)) (aCons (eCallP lenD (aCons (eVar 5) aNil)) aNil))) aNil)))) (sRet (eC (.bl false))) sNext) (sSeq (sIf (asB (eBin neD (eCallP reprD (aCons (eCall 2 0 gAll F_next_events (aCons (eVar 2) (aCons (eVar 5) aNil)) aNil) aNil)) (eCallP reprD (aCons (eCallP tupleD (aCons (eVar 7) aNil)) aNil)))) (sRet (eC (.bl false))) sNext) (sFor (iSeqD (eBin addD (eVar 4) (eLst (aCons (eTup (aCons (eC (.str "nobody")) (aCons (eC (.int 0)) aNil))) (aCons (eC .non) aNil))))) (gName' 8) B_law_L1))))
noncomputable def B_law : FSx := (sSeq (sAsg (eCall 1 0 gAll F__law_tape (aCons (eVar 0) aNil) aNil) (gName' 1)) (sSeq (sAsg (eCall 1 0 gAll F__law_program (aCons (eVar 1) aNil) aNil) (gName' 2)) (sSeq (sPar 3 4 (aCons (eCallP reprD (aCons (eVar 2) aNil)) (aCons (eCall 1 0 gAll F__law_events (aCons (eVar 2) aNil) aNil) aNil))) (sSeq (sFor (iSeqD (eCall 1 0 gAll F__law_runs (aCons (eVar 2) aNil) aNil)) (gTup' 2 (gsCons (gName' 5) (gsCons (gName' 6) gsNil))) B_law_L2) (sRet (eBin eqD (eCallP reprD (aCons (eVar 2) aNil)) (eVar 3)))))))
noncomputable def F_law : List D → M D := dBody false 9 B_law
end K28
end

section
set_option Elab.async false
set_option linter.all false
set_option maxRecDepth 100000
set_option autoImplicit false
set_option maxHeartbeats 2000000
namespace K28
open PySem PySem.Spec PyProof.Rows L2 FL
def topS (i : Nat) : Stmt := PySem.Challenge.pw_samestamp_k28_whole_every_run.main.body.getD i (.Pass ⟨0, 0, 0, 0⟩)
abbrev s__law_tape : Stmt := topS 42
abbrev s__law_arrow : Stmt := topS 48
abbrev s__law_written : Stmt := topS 49
abbrev s__law_draw : Stmt := topS 43
abbrev s__law_names : Stmt := topS 46
abbrev s__law_table : Stmt := topS 47
abbrev s__law_pairs : Stmt := topS 50
abbrev s__law_pick : Stmt := topS 44
abbrev s__law_deed : Stmt := topS 51
abbrev s__law_plain : Stmt := topS 52
abbrev s__law_grown : Stmt := topS 53
abbrev s__law_free : Stmt := topS 54
abbrev s__law_scenes : Stmt := topS 45
abbrev s__law_program : Stmt := topS 55
abbrev s__law_begun : Stmt := topS 56
abbrev s__law_at : Stmt := topS 58
abbrev s__law_arrow_of : Stmt := topS 59
abbrev s__law_put : Stmt := topS 67
abbrev s__law_count : Stmt := topS 61
abbrev s__law_stamp : Stmt := topS 60
abbrev s__law_after : Stmt := topS 68
abbrev s__law_events : Stmt := topS 57
abbrev s__law_stands : Stmt := topS 65
abbrev s__law_gap : Stmt := topS 62
abbrev s__law_is_look : Stmt := topS 63
abbrev s__law_is_true : Stmt := topS 64
abbrev s__law_open : Stmt := topS 66
abbrev s__law_runs : Stmt := topS 70
abbrev s_all_events : Stmt := topS 24
abbrev s_party_names : Stmt := topS 18
abbrev s_party_spot : Stmt := topS 19
abbrev s_arrow_at : Stmt := topS 23
abbrev s_stands_at : Stmt := topS 26
abbrev s_is_true : Stmt := topS 28
abbrev s_slot_spot : Stmt := topS 20
abbrev s_owner_spot : Stmt := topS 21
abbrev s_look_gap : Stmt := topS 27
abbrev s_can_come : Stmt := topS 29
abbrev s_events_in : Stmt := topS 32
abbrev s_require_given : Stmt := topS 17
abbrev s_first_state : Stmt := topS 25
abbrev s_is_name : Stmt := topS 11
abbrev s_is_integer : Stmt := topS 9
abbrev s_is_number : Stmt := topS 10
abbrev s_is_event_of : Stmt := topS 22
abbrev s_fault_in : Stmt := topS 34
abbrev s_put_at : Stmt := topS 30
abbrev s_state_behind : Stmt := topS 31
abbrev s_run_fault : Stmt := topS 35
abbrev s_is_run : Stmt := topS 36
abbrev s_states_along : Stmt := topS 38
abbrev s_state_after : Stmt := topS 39
abbrev s_next_events : Stmt := topS 40
abbrev s_lets_run : Stmt := topS 37
abbrev s_law : Stmt := topS 71
def frs : List Str := ["all", "bool", "enumerate", "int", "isinstance", "len", "range", "repr", "sorted", "str", "tuple"]
def cns : List (Str × D) := [("COUNTER_LOOKS", C_COUNTER_LOOKS), ("EQUAL_WORDS", C_EQUAL_WORDS), ("LETTERS", C_LETTERS), ("LONGEST_NAME", C_LONGEST_NAME), ("LOOK_WORDS", C_LOOK_WORDS), ("ORDER_LOOKS", C_ORDER_LOOKS)]
def d__law_tape : He.DefD := ⟨("_law_tape", none), "_law_tape", "_law_tape", defArgs s__law_tape, defBody s__law_tape, defScope s__law_tape, [], []⟩
def d__law_arrow : He.DefD := ⟨("_law_arrow", none), "_law_arrow", "_law_arrow", defArgs s__law_arrow, defBody s__law_arrow, defScope s__law_arrow, [], []⟩
def d__law_written : He.DefD := ⟨("_law_written", none), "_law_written", "_law_written", defArgs s__law_written, defBody s__law_written, defScope s__law_written, [], []⟩
def d__law_draw : He.DefD := ⟨("_law_draw", none), "_law_draw", "_law_draw", defArgs s__law_draw, defBody s__law_draw, defScope s__law_draw, [], []⟩
def d__law_names : He.DefD := ⟨("_law_names", none), "_law_names", "_law_names", defArgs s__law_names, defBody s__law_names, defScope s__law_names, [], []⟩
def d__law_table : He.DefD := ⟨("_law_table", none), "_law_table", "_law_table", defArgs s__law_table, defBody s__law_table, defScope s__law_table, [], []⟩
def d__law_pairs : He.DefD := ⟨("_law_pairs", none), "_law_pairs", "_law_pairs", defArgs s__law_pairs, defBody s__law_pairs, defScope s__law_pairs, [], []⟩
def d__law_pick : He.DefD := ⟨("_law_pick", none), "_law_pick", "_law_pick", defArgs s__law_pick, defBody s__law_pick, defScope s__law_pick, [], []⟩
def d__law_deed : He.DefD := ⟨("_law_deed", none), "_law_deed", "_law_deed", defArgs s__law_deed, defBody s__law_deed, defScope s__law_deed, [], []⟩
def d__law_plain : He.DefD := ⟨("_law_plain", none), "_law_plain", "_law_plain", defArgs s__law_plain, defBody s__law_plain, defScope s__law_plain, [], []⟩
def d__law_grown : He.DefD := ⟨("_law_grown", none), "_law_grown", "_law_grown", defArgs s__law_grown, defBody s__law_grown, defScope s__law_grown, [], []⟩
def d__law_free : He.DefD := ⟨("_law_free", none), "_law_free", "_law_free", defArgs s__law_free, defBody s__law_free, defScope s__law_free, [], []⟩
def d__law_scenes : He.DefD := ⟨("_law_scenes", none), "_law_scenes", "_law_scenes", defArgs s__law_scenes, defBody s__law_scenes, defScope s__law_scenes, [], []⟩
def d__law_program : He.DefD := ⟨("_law_program", none), "_law_program", "_law_program", defArgs s__law_program, defBody s__law_program, defScope s__law_program, [], []⟩
def d__law_begun : He.DefD := ⟨("_law_begun", none), "_law_begun", "_law_begun", defArgs s__law_begun, defBody s__law_begun, defScope s__law_begun, [], []⟩
def d__law_at : He.DefD := ⟨("_law_at", none), "_law_at", "_law_at", defArgs s__law_at, defBody s__law_at, defScope s__law_at, [], []⟩
def d__law_arrow_of : He.DefD := ⟨("_law_arrow_of", none), "_law_arrow_of", "_law_arrow_of", defArgs s__law_arrow_of, defBody s__law_arrow_of, defScope s__law_arrow_of, [], []⟩
def d__law_put : He.DefD := ⟨("_law_put", none), "_law_put", "_law_put", defArgs s__law_put, defBody s__law_put, defScope s__law_put, [], []⟩
def d__law_count : He.DefD := ⟨("_law_count", none), "_law_count", "_law_count", defArgs s__law_count, defBody s__law_count, defScope s__law_count, [], []⟩
def d__law_stamp : He.DefD := ⟨("_law_stamp", none), "_law_stamp", "_law_stamp", defArgs s__law_stamp, defBody s__law_stamp, defScope s__law_stamp, [], []⟩
def d__law_after : He.DefD := ⟨("_law_after", none), "_law_after", "_law_after", defArgs s__law_after, defBody s__law_after, defScope s__law_after, [], []⟩
def d__law_events : He.DefD := ⟨("_law_events", none), "_law_events", "_law_events", defArgs s__law_events, defBody s__law_events, defScope s__law_events, [], []⟩
def d__law_stands : He.DefD := ⟨("_law_stands", none), "_law_stands", "_law_stands", defArgs s__law_stands, defBody s__law_stands, defScope s__law_stands, [], []⟩
def d__law_gap : He.DefD := ⟨("_law_gap", none), "_law_gap", "_law_gap", defArgs s__law_gap, defBody s__law_gap, defScope s__law_gap, [], []⟩
def d__law_is_look : He.DefD := ⟨("_law_is_look", none), "_law_is_look", "_law_is_look", defArgs s__law_is_look, defBody s__law_is_look, defScope s__law_is_look, [], []⟩
def d__law_is_true : He.DefD := ⟨("_law_is_true", none), "_law_is_true", "_law_is_true", defArgs s__law_is_true, defBody s__law_is_true, defScope s__law_is_true, [], []⟩
def d__law_open : He.DefD := ⟨("_law_open", none), "_law_open", "_law_open", defArgs s__law_open, defBody s__law_open, defScope s__law_open, [], []⟩
def d__law_runs : He.DefD := ⟨("_law_runs", none), "_law_runs", "_law_runs", defArgs s__law_runs, defBody s__law_runs, defScope s__law_runs, [], []⟩
def d_all_events : He.DefD := ⟨("all_events", none), "all_events", "all_events", defArgs s_all_events, defBody s_all_events, defScope s_all_events, [], []⟩
def d_party_names : He.DefD := ⟨("party_names", none), "party_names", "party_names", defArgs s_party_names, defBody s_party_names, defScope s_party_names, [], []⟩
def d_party_spot : He.DefD := ⟨("party_spot", none), "party_spot", "party_spot", defArgs s_party_spot, defBody s_party_spot, defScope s_party_spot, [], []⟩
def d_arrow_at : He.DefD := ⟨("arrow_at", none), "arrow_at", "arrow_at", defArgs s_arrow_at, defBody s_arrow_at, defScope s_arrow_at, [], []⟩
def d_stands_at : He.DefD := ⟨("stands_at", none), "stands_at", "stands_at", defArgs s_stands_at, defBody s_stands_at, defScope s_stands_at, [], []⟩
def d_is_true : He.DefD := ⟨("is_true", none), "is_true", "is_true", defArgs s_is_true, defBody s_is_true, defScope s_is_true, [], []⟩
def d_slot_spot : He.DefD := ⟨("slot_spot", none), "slot_spot", "slot_spot", defArgs s_slot_spot, defBody s_slot_spot, defScope s_slot_spot, [], []⟩
def d_owner_spot : He.DefD := ⟨("owner_spot", none), "owner_spot", "owner_spot", defArgs s_owner_spot, defBody s_owner_spot, defScope s_owner_spot, [], []⟩
def d_look_gap : He.DefD := ⟨("look_gap", none), "look_gap", "look_gap", defArgs s_look_gap, defBody s_look_gap, defScope s_look_gap, [], []⟩
def d_can_come : He.DefD := ⟨("can_come", none), "can_come", "can_come", defArgs s_can_come, defBody s_can_come, defScope s_can_come, [], []⟩
def d_events_in : He.DefD := ⟨("events_in", none), "events_in", "events_in", defArgs s_events_in, defBody s_events_in, defScope s_events_in, [], []⟩
def d_require_given : He.DefD := ⟨("require_given", none), "require_given", "require_given", defArgs s_require_given, defBody s_require_given, defScope s_require_given, [.int (-1)], []⟩
def d_first_state : He.DefD := ⟨("first_state", none), "first_state", "first_state", defArgs s_first_state, defBody s_first_state, defScope s_first_state, [], []⟩
def d_is_name : He.DefD := ⟨("is_name", none), "is_name", "is_name", defArgs s_is_name, defBody s_is_name, defScope s_is_name, [], []⟩
def d_is_integer : He.DefD := ⟨("is_integer", none), "is_integer", "is_integer", defArgs s_is_integer, defBody s_is_integer, defScope s_is_integer, [], []⟩
def d_is_number : He.DefD := ⟨("is_number", none), "is_number", "is_number", defArgs s_is_number, defBody s_is_number, defScope s_is_number, [], []⟩
def d_is_event_of : He.DefD := ⟨("is_event_of", none), "is_event_of", "is_event_of", defArgs s_is_event_of, defBody s_is_event_of, defScope s_is_event_of, [], []⟩
def d_fault_in : He.DefD := ⟨("fault_in", none), "fault_in", "fault_in", defArgs s_fault_in, defBody s_fault_in, defScope s_fault_in, [], []⟩
def d_put_at : He.DefD := ⟨("put_at", none), "put_at", "put_at", defArgs s_put_at, defBody s_put_at, defScope s_put_at, [], []⟩
def d_state_behind : He.DefD := ⟨("state_behind", none), "state_behind", "state_behind", defArgs s_state_behind, defBody s_state_behind, defScope s_state_behind, [], []⟩
def d_run_fault : He.DefD := ⟨("run_fault", none), "run_fault", "run_fault", defArgs s_run_fault, defBody s_run_fault, defScope s_run_fault, [], []⟩
def d_is_run : He.DefD := ⟨("is_run", none), "is_run", "is_run", defArgs s_is_run, defBody s_is_run, defScope s_is_run, [], []⟩
def d_states_along : He.DefD := ⟨("states_along", none), "states_along", "states_along", defArgs s_states_along, defBody s_states_along, defScope s_states_along, [], []⟩
def d_state_after : He.DefD := ⟨("state_after", none), "state_after", "state_after", defArgs s_state_after, defBody s_state_after, defScope s_state_after, [], []⟩
def d_next_events : He.DefD := ⟨("next_events", none), "next_events", "next_events", defArgs s_next_events, defBody s_next_events, defScope s_next_events, [], []⟩
def d_lets_run : He.DefD := ⟨("lets_run", none), "lets_run", "lets_run", defArgs s_lets_run, defBody s_lets_run, defScope s_lets_run, [], []⟩
def d_law : He.DefD := ⟨("law", none), "law", "law", defArgs s_law, defBody s_law, defScope s_law, [], []⟩
def dfs : List He.DefD := [d__law_tape, d__law_arrow, d__law_written, d__law_draw, d__law_names, d__law_table, d__law_pairs, d__law_pick, d__law_deed, d__law_plain, d__law_grown, d__law_free, d__law_scenes, d__law_program, d__law_begun, d__law_at, d__law_arrow_of, d__law_put, d__law_count, d__law_stamp, d__law_after, d__law_events, d__law_stands, d__law_gap, d__law_is_look, d__law_is_true, d__law_open, d__law_runs, d_all_events, d_party_names, d_party_spot, d_arrow_at, d_stands_at, d_is_true, d_slot_spot, d_owner_spot, d_look_gap, d_can_come, d_events_in, d_require_given, d_first_state, d_is_name, d_is_integer, d_is_number, d_is_event_of, d_fault_in, d_put_at, d_state_behind, d_run_fault, d_is_run, d_states_along, d_state_after, d_next_events, d_lets_run, d_law]
abbrev TT (K : PySem.W.Frag) (mg : Str → Option Value) : Prop := Top frs cns dfs K mg
section
variable {P : Program} {w : World} {K : PySem.W.Frag} {mg : Str → Option Value} {base : Heap}
theorem sc__law_tape : FnScope ["_law_script"] ["_law_script"] (defScope s__law_tape) := C8.fnScope_by (by decide +kernel)
theorem fn__law_tape (T : TT K mg) : ∃ fd, FunD K "_law_tape" "_law_tape" (defArgs s__law_tape) (defBody s__law_tape) (defScope s__law_tape) (d__law_tape.dvs K) (d__law_tape.kws K) (He.fAd K ("_law_tape", none)) fd ∧ mg "_law_tape" = some (.ref (He.fAd K ("_law_tape", none))) ∧ FnD P w K mg base C8.CX0 1 (He.fAd K ("_law_tape", none)) fd ["_law_script"] F__law_tape := by
  obtain ⟨fd, hf, hm⟩ := T.df d__law_tape (List.mem_of_getElem? (i := 0) rfl)
  have SC := sc__law_tape
  refine ⟨fd, hf, hm, fnd_of0 (k := 0) hf SC fun cdv B outer s H E hr hgd => ?_⟩
  exact (fss_one (fs_ret (fe_newL (fa_cons (fe_sl (fe_var (pv 0)) fo_none (fo_some fe_int)) (fa_cons fe_int (fa_cons fe_int (fa_cons fe_int fa_nil)))))))
theorem cal__law_tape (T : TT K mg) : CalD P w K mg base C8.CX0 1 "_law_tape" 1 [] gAll F__law_tape := by
  obtain ⟨fd, hf, hm, hF⟩ := fn__law_tape (P := P) (w := w) (base := base) T
  exact ⟨_, fd, _, hF, hm, hf.kp, bdd_all (hf.bindsN fun _ _ _ _ _ _ us hl => match us, hl with | [_], _ => rfl)⟩
theorem sc__law_arrow : FnScope ["_law_page_in", "_law_table_here", "_law_words", "_law_deed_here", "_law_word"] ["_law_page_in", "_law_table_here"] (defScope s__law_arrow) := C8.fnScope_by (by decide +kernel)
theorem fn__law_arrow (T : TT K mg) : ∃ fd, FunD K "_law_arrow" "_law_arrow" (defArgs s__law_arrow) (defBody s__law_arrow) (defScope s__law_arrow) (d__law_arrow.dvs K) (d__law_arrow.kws K) (He.fAd K ("_law_arrow", none)) fd ∧ mg "_law_arrow" = some (.ref (He.fAd K ("_law_arrow", none))) ∧ FnD P w K mg base C8.CX0 1 (He.fAd K ("_law_arrow", none)) fd ["_law_page_in", "_law_table_here"] F__law_arrow := by
  obtain ⟨fd, hf, hm⟩ := T.df d__law_arrow (List.mem_of_getElem? (i := 1) rfl)
  have SC := sc__law_arrow
  refine ⟨fd, hf, hm, fnd_of0 (k := 0) hf SC fun cdv B outer s H E hr hgd => ?_⟩
  exact (fss_cons (fs_par (i := 2) (j := 3) rfl SC.nd rfl rfl (by decide) rfl rfl (fa_cons (fe_meth meth_split (fe_var (pv 0)) (fa_cons (fe_str (by decide +kernel)) fa_nil)) (fa_cons (fe_newL fa_nil) fa_nil)) (by rfl))
      (fss_cons (fs_for PassesOwn.never rfl (fi_seq (fe_sl (fe_var (pv 2)) (fo_some fe_int) (fo_some (fe_un un_negD fe_int)))) (fgw_n (fg_name (pg_name (i := 4) SC.nd rfl (.inl rfl)))) (fss_one (fs_expr (fe_mut mut_append (fe_var (pv 3)) (fa_cons (fe_if (ft_val (fe_meth0 meth_isdigit (fe_var (pv 4)))) (fe_callTy call_intD (by rfl) (T.fr "int" (List.mem_of_getElem? (i := 3) rfl)) (by decide +kernel) (fa_cons (fe_var (pv 4)) fa_nil)) (fe_meth (meth_get2 (room_1 hr)) (fe_var (pv 1)) (fa_cons (fe_var (pv 4)) (fa_cons (fe_var (pv 4)) fa_nil)))) fa_nil)))))
      (fss_one (fs_ret (fe_tup (fa_cons (fe_callTy call_intD (by rfl) (T.fr "int" (List.mem_of_getElem? (i := 3) rfl)) (by decide +kernel) (fa_cons (fe_ix (ix_D (room_65 hr)) (fe_var (pv 2)) fe_int) fa_nil)) (fa_cons (fe_callTy call_tupleD (by rfl) (T.fr "tuple" (List.mem_of_getElem? (i := 10) rfl)) (by decide +kernel) (fa_cons (fe_var (pv 3)) fa_nil)) (fa_cons (fe_callTy call_intD (by rfl) (T.fr "int" (List.mem_of_getElem? (i := 3) rfl)) (by decide +kernel) (fa_cons (fe_ix (ix_D (room_65 hr)) (fe_var (pv 2)) (fe_un un_negD fe_int)) fa_nil)) fa_nil))))))))
theorem cal__law_arrow (T : TT K mg) : CalD P w K mg base C8.CX0 1 "_law_arrow" 2 [] gAll F__law_arrow := by
  obtain ⟨fd, hf, hm, hF⟩ := fn__law_arrow (P := P) (w := w) (base := base) T
  exact ⟨_, fd, _, hF, hm, hf.kp, bdd_all (hf.bindsN fun _ _ _ _ _ _ us hl => match us, hl with | [_, _], _ => rfl)⟩
theorem sc__law_written : FnScope ["_law_page", "_law_table_here", "_law_parts", "_law_slots", "_law_counters", "_law_parties", "_law_k", "_law_arrows", "_law_row", "_law_sign", "_law_page_in"] ["_law_page", "_law_table_here"] (defScope s__law_written) := C8.fnScope_by (by decide +kernel)
theorem fn__law_written (T : TT K mg) : ∃ fd, FunD K "_law_written" "_law_written" (defArgs s__law_written) (defBody s__law_written) (defScope s__law_written) (d__law_written.dvs K) (d__law_written.kws K) (He.fAd K ("_law_written", none)) fd ∧ mg "_law_written" = some (.ref (He.fAd K ("_law_written", none))) ∧ FnD P w K mg base C8.CX0 2 (He.fAd K ("_law_written", none)) fd ["_law_page", "_law_table_here"] F__law_written := by
  obtain ⟨fd, hf, hm⟩ := T.df d__law_written (List.mem_of_getElem? (i := 2) rfl)
  have SC := sc__law_written
  refine ⟨fd, hf, hm, fnd_of0 (k := 1) hf SC fun cdv B outer s H E hr hgd => ?_⟩
  exact (fss_cons (fs_set (i := 2) SC.nd rfl (.inl rfl) (fe_meth meth_split (fe_var (pv 0)) (fa_cons (fe_str (by decide +kernel)) fa_nil)))
      (fss_cons (fs_setComp (i := 3) (own := [("_law_row", 8)]) rfl SC.nd rfl rfl (by rfl) (fi_seq (fe_meth meth_split (fe_ix (ix_D (room_65 hr)) (fe_var (pv 2)) fe_int) (fa_cons (fe_str (by decide +kernel)) fa_nil))) (blkOk_by (by rfl)) (fun _ _ _ _ _ => (fgc_name (pg_name (i := 8) SC.nd rfl (by first | exact .inl rfl | exact .inr rfl)))) (fun _ _ _ _ _ => (fts_one (ft_cmp (op_neDD (room_64 hr)) (fe_var (pv 8)) (fe_str (by decide +kernel))))) (fun _ _ _ _ _ => (fe_tup (fa_cons (fe_ix (ix_D (room_65 hr)) (fe_var (pv 1)) (fe_ix (ix_D (room_65 hr)) (fe_var (pv 8)) fe_int)) (fa_cons (fe_ix (ix_D (room_65 hr)) (fe_var (pv 1)) (fe_ix (ix_D (room_65 hr)) (fe_var (pv 8)) fe_int)) fa_nil)))))
      (fss_cons (fs_par (i := 4) (j := 5) rfl SC.nd rfl rfl (by decide) rfl rfl (fa_cons (fe_comp (own := [("_law_sign", 9)]) rfl SC.nd (fi_seq (fe_meth meth_split (fe_ix (ix_D (room_65 hr)) (fe_var (pv 2)) fe_int) (fa_cons (fe_str (by decide +kernel)) fa_nil))) (blkOk_by (by rfl)) (fun _ _ _ _ _ => (fgc_name (pg_name (i := 9) SC.nd rfl (by first | exact .inl rfl | exact .inr rfl)))) (fun _ _ _ _ _ => (fts_one (ft_cmp (op_neDD (room_64 hr)) (fe_var (pv 9)) (fe_str (by decide +kernel))))) (fun _ _ _ _ _ => (fe_ix (ix_D (room_65 hr)) (fe_var (pv 1)) (fe_var (pv 9))))) (fa_cons (fe_newL fa_nil) fa_nil)) (by rfl))
      (fss_cons (fs_for PassesOwn.never rfl (fi_range2 (by rfl) (T.fr "range" (List.mem_of_getElem? (i := 6) rfl)) (fa_cons fe_int (fa_cons (fe_callB call_lenD (by rfl) (T.fr "len" (List.mem_of_getElem? (i := 5) rfl)) (by decide +kernel) (fa_cons (fe_var (pv 2)) fa_nil)) fa_nil))) (fgw_n (fg_name (pg_name (i := 6) SC.nd rfl (.inl rfl)))) (fss_cons (fs_setComp (i := 7) (own := [("_law_page_in", 10)]) rfl SC.nd rfl rfl (by rfl) (fi_seq (fe_meth meth_split (fe_ix (ix_D (room_65 hr)) (fe_var (pv 2)) (fe_var (pv 6))) (fa_cons (fe_str (by decide +kernel)) fa_nil))) (blkOk_by (by rfl)) (fun _ _ _ _ _ => (fgc_name (pg_name (i := 10) SC.nd rfl (by first | exact .inl rfl | exact .inr rfl)))) (fun _ _ _ _ _ => (fts_one (ft_cmp (op_neDD (room_64 hr)) (fe_var (pv 10)) (fe_str (by decide +kernel))))) (fun _ _ _ _ _ => (fe_call (cal__law_arrow T) hr (by omega) hgd (by rfl) C8.pass0 (fa_cons (fe_var (pv 10)) (fa_cons (fe_var (pv 1)) fa_nil)))))
      (fss_one (fs_expr (fe_mut mut_append (fe_var (pv 5)) (fa_cons (fe_tup (fa_cons (fe_ix (ix_D (room_65 hr)) (fe_var (pv 1)) (fe_ix (ix_D (room_65 hr)) (fe_str (by decide +kernel)) (fe_op op_subD (fe_var (pv 6)) fe_int))) (fa_cons (fe_callTy call_tupleD (by rfl) (T.fr "tuple" (List.mem_of_getElem? (i := 10) rfl)) (by decide +kernel) (fa_cons (fe_var (pv 7)) fa_nil)) fa_nil))) fa_nil))))))
      (fss_one (fs_ret (fe_tup (fa_cons (fe_callTy call_tupleD (by rfl) (T.fr "tuple" (List.mem_of_getElem? (i := 10) rfl)) (by decide +kernel) (fa_cons (fe_callB call_sortedD (by rfl) (T.fr "sorted" (List.mem_of_getElem? (i := 8) rfl)) (by decide +kernel) (fa_cons (fe_var (pv 4)) fa_nil)) fa_nil)) (fa_cons (fe_callTy call_tupleD (by rfl) (T.fr "tuple" (List.mem_of_getElem? (i := 10) rfl)) (by decide +kernel) (fa_cons (fe_callB call_sortedD (by rfl) (T.fr "sorted" (List.mem_of_getElem? (i := 8) rfl)) (by decide +kernel) (fa_cons (fe_var (pv 3)) fa_nil)) fa_nil)) (fa_cons (fe_callTy call_tupleD (by rfl) (T.fr "tuple" (List.mem_of_getElem? (i := 10) rfl)) (by decide +kernel) (fa_cons (fe_callB call_sortedD (by rfl) (T.fr "sorted" (List.mem_of_getElem? (i := 8) rfl)) (by decide +kernel) (fa_cons (fe_var (pv 5)) fa_nil)) fa_nil)) fa_nil))))))))))
theorem cal__law_written (T : TT K mg) : CalD P w K mg base C8.CX0 2 "_law_written" 2 [] gAll F__law_written := by
  obtain ⟨fd, hf, hm, hF⟩ := fn__law_written (P := P) (w := w) (base := base) T
  exact ⟨_, fd, _, hF, hm, hf.kp, bdd_all (hf.bindsN fun _ _ _ _ _ _ us hl => match us, hl with | [_, _], _ => rfl)⟩
theorem sc__law_draw : FnScope ["_law_tape_here", "_law_size", "_law_found", "_law_spot", "_law_cell", "_law_mixed"] ["_law_tape_here", "_law_size"] (defScope s__law_draw) := C8.fnScope_by (by decide +kernel)
theorem fn__law_draw (T : TT K mg) : ∃ fd, FunD K "_law_draw" "_law_draw" (defArgs s__law_draw) (defBody s__law_draw) (defScope s__law_draw) (d__law_draw.dvs K) (d__law_draw.kws K) (He.fAd K ("_law_draw", none)) fd ∧ mg "_law_draw" = some (.ref (He.fAd K ("_law_draw", none))) ∧ FnD P w K mg base C8.CX0 1 (He.fAd K ("_law_draw", none)) fd ["_law_tape_here", "_law_size"] F__law_draw := by
  obtain ⟨fd, hf, hm⟩ := T.df d__law_draw (List.mem_of_getElem? (i := 3) rfl)
  have SC := sc__law_draw
  refine ⟨fd, hf, hm, fnd_of0 (k := 0) hf SC fun cdv B outer s H E hr hgd => ?_⟩
  exact (fss_cons (fs_asg (fe_op op_addD (fe_ix (ix_D (room_65 hr)) (fe_var (pv 0)) fe_int) fe_int) (fg_sub (room_1 hr) (fe_var (pv 0)) fe_int))
      (fss_cons (fs_if (ft_cmp op_gtD (fe_ix (ix_D (room_65 hr)) (fe_var (pv 0)) fe_int) fe_int) (fss_cons (fs_set (i := 2) SC.nd rfl (.inl rfl) (fe_op op_modD (fe_callTy call_intD (by rfl) (T.fr "int" (List.mem_of_getElem? (i := 3) rfl)) (by decide +kernel) (fa_cons (fe_ix (ix_D (room_65 hr)) (fe_var (pv 0)) fe_int) fa_nil)) (fe_var (pv 1))))
      (fss_cons (fs_asg (fe_op op_fdivD (fe_ix (ix_D (room_65 hr)) (fe_var (pv 0)) fe_int) (fe_var (pv 1))) (fg_sub (room_1 hr) (fe_var (pv 0)) fe_int))
      (fss_one (fs_ret (fe_var (pv 2)))))) fss_nil)
      (fss_cons (fs_set (i := 3) SC.nd rfl (.inl rfl) (fe_ix (ix_D (room_65 hr)) (fe_var (pv 0)) fe_int))
      (fss_cons (fs_asg (fe_op op_addD (fe_var (pv 3)) fe_int) (fg_sub (room_1 hr) (fe_var (pv 0)) fe_int))
      (fss_cons (fs_set (i := 4) SC.nd rfl (.inl rfl) (fe_if (ft_cmp (op_neDD (room_64 hr)) (fe_ix (ix_D (room_65 hr)) (fe_var (pv 0)) fe_int) (fe_lst fa_nil)) (fe_ix (ix_D (room_65 hr)) (fe_ix (ix_D (room_65 hr)) (fe_var (pv 0)) fe_int) (fe_op op_modD (fe_callTy call_intD (by rfl) (T.fr "int" (List.mem_of_getElem? (i := 3) rfl)) (by decide +kernel) (fa_cons (fe_var (pv 3)) fa_nil)) (fe_callB call_lenD (by rfl) (T.fr "len" (List.mem_of_getElem? (i := 5) rfl)) (by decide +kernel) (fa_cons (fe_ix (ix_D (room_65 hr)) (fe_var (pv 0)) fe_int) fa_nil)))) fe_int))
      (fss_cons (fs_if (PW.pt (fw_and (ft_cmp op_geD (fe_var (pv 4)) (fe_op op_powD fe_int fe_int)) (fw_and1 (ft_cmp op_ltD (fe_var (pv 3)) (fe_callB call_lenD (by rfl) (T.fr "len" (List.mem_of_getElem? (i := 5) rfl)) (by decide +kernel) (fa_cons (fe_ix (ix_D (room_65 hr)) (fe_var (pv 0)) fe_int) fa_nil)))))) (fss_cons (fs_asg (fe_op op_fdivD (fe_var (pv 4)) (fe_var (pv 1))) (fg_sub (room_1 hr) (fe_var (pv 0)) fe_int))
      (fss_one (fs_ret (fe_op op_modD (fe_callTy call_intD (by rfl) (T.fr "int" (List.mem_of_getElem? (i := 3) rfl)) (by decide +kernel) (fa_cons (fe_var (pv 4)) fa_nil)) (fe_var (pv 1)))))) fss_nil)
      (fss_cons (fs_set (i := 5) SC.nd rfl (.inl rfl) (fe_op op_modD (fe_callTy call_intD (by rfl) (T.fr "int" (List.mem_of_getElem? (i := 3) rfl)) (by decide +kernel) (fa_cons (fe_op op_powD (fe_op op_addD (fe_op op_addD (fe_op op_modD (fe_callTy call_intD (by rfl) (T.fr "int" (List.mem_of_getElem? (i := 3) rfl)) (by decide +kernel) (fa_cons (fe_var (pv 4)) fa_nil)) fe_int) (fe_op op_mulD fe_int (fe_ix (ix_D (room_65 hr)) (fe_var (pv 0)) fe_int))) fe_int) fe_int) fa_nil)) fe_int))
      (fss_cons (fs_set (i := 5) SC.nd rfl (.inl rfl) (fe_op op_modD (fe_callTy call_intD (by rfl) (T.fr "int" (List.mem_of_getElem? (i := 3) rfl)) (by decide +kernel) (fa_cons (fe_op op_powD (fe_op op_addD (fe_op op_addD (fe_var (pv 5)) (fe_op op_mulD (fe_op op_mulD fe_int (fe_ix (ix_D (room_65 hr)) (fe_var (pv 0)) fe_int)) (fe_ix (ix_D (room_65 hr)) (fe_var (pv 0)) fe_int))) fe_int) fe_int) fa_nil)) fe_int))
      (fss_one (fs_ret (fe_op op_modD (fe_callTy call_intD (by rfl) (T.fr "int" (List.mem_of_getElem? (i := 3) rfl)) (by decide +kernel) (fa_cons (fe_op op_fdivD (fe_var (pv 5)) fe_int) fa_nil)) (fe_var (pv 1)))))))))))))
theorem cal__law_draw (T : TT K mg) : CalD P w K mg base C8.CX0 1 "_law_draw" 2 [] gAll F__law_draw := by
  obtain ⟨fd, hf, hm, hF⟩ := fn__law_draw (P := P) (w := w) (base := base) T
  exact ⟨_, fd, _, hF, hm, hf.kp, bdd_all (hf.bindsN fun _ _ _ _ _ _ us hl => match us, hl with | [_, _], _ => rfl)⟩
theorem sc__law_names : FnScope ["_law_tape_here", "_law_pool", "_law_olds", "_law_start", "_law_stride", "_law_table_here", "_law_k"] ["_law_tape_here", "_law_pool", "_law_olds"] (defScope s__law_names) := C8.fnScope_by (by decide +kernel)
theorem fn__law_names (T : TT K mg) : ∃ fd, FunD K "_law_names" "_law_names" (defArgs s__law_names) (defBody s__law_names) (defScope s__law_names) (d__law_names.dvs K) (d__law_names.kws K) (He.fAd K ("_law_names", none)) fd ∧ mg "_law_names" = some (.ref (He.fAd K ("_law_names", none))) ∧ FnD P w K mg base C8.CX0 2 (He.fAd K ("_law_names", none)) fd ["_law_tape_here", "_law_pool", "_law_olds"] F__law_names := by
  obtain ⟨fd, hf, hm⟩ := T.df d__law_names (List.mem_of_getElem? (i := 4) rfl)
  have SC := sc__law_names
  refine ⟨fd, hf, hm, fnd_of0 (k := 1) hf SC fun cdv B outer s H E hr hgd => ?_⟩
  exact (fss_cons (fs_par3 (i := 3) (j := 4) (l := 5) rfl SC.nd rfl rfl rfl (by decide) (by decide) (by decide) rfl rfl rfl (fa_cons (fe_call (cal__law_draw T) hr (by omega) hgd (by rfl) C8.pass0 (fa_cons (fe_var (pv 0)) (fa_cons (fe_callB call_lenD (by rfl) (T.fr "len" (List.mem_of_getElem? (i := 5) rfl)) (by decide +kernel) (fa_cons (fe_var (pv 1)) fa_nil)) fa_nil))) (fa_cons (fe_op op_addD fe_int (fe_call (cal__law_draw T) hr (by omega) hgd (by rfl) C8.pass0 (fa_cons (fe_var (pv 0)) (fa_cons (fe_op op_subD (fe_callB call_lenD (by rfl) (T.fr "len" (List.mem_of_getElem? (i := 5) rfl)) (by decide +kernel) (fa_cons (fe_var (pv 1)) fa_nil)) fe_int) fa_nil)))) (fa_cons fe_newD fa_nil))) (by rfl))
      (fss_cons (fs_for PassesOwn.never rfl (fi_range1 (by rfl) (T.fr "range" (List.mem_of_getElem? (i := 6) rfl)) (fa_cons (fe_callB call_lenD (by rfl) (T.fr "len" (List.mem_of_getElem? (i := 5) rfl)) (by decide +kernel) (fa_cons (fe_var (pv 2)) fa_nil)) fa_nil)) (fgw_n (fg_name (pg_name (i := 6) SC.nd rfl (.inl rfl)))) (fss_one (fs_asg (fe_ix (ix_D (room_65 hr)) (fe_var (pv 1)) (fe_op op_modD (fe_callTy call_intD (by rfl) (T.fr "int" (List.mem_of_getElem? (i := 3) rfl)) (by decide +kernel) (fa_cons (fe_op op_addD (fe_var (pv 3)) (fe_op op_mulD (fe_var (pv 6)) (fe_var (pv 4)))) fa_nil)) (fe_callB call_lenD (by rfl) (T.fr "len" (List.mem_of_getElem? (i := 5) rfl)) (by decide +kernel) (fa_cons (fe_var (pv 1)) fa_nil)))) (fg_sub (room_1 hr) (fe_var (pv 5)) (fe_ix (ix_D (room_65 hr)) (fe_var (pv 2)) (fe_var (pv 6)))))))
      (fss_one (fs_ret (fe_var (pv 5))))))
theorem cal__law_names (T : TT K mg) : CalD P w K mg base C8.CX0 2 "_law_names" 3 [] gAll F__law_names := by
  obtain ⟨fd, hf, hm, hF⟩ := fn__law_names (P := P) (w := w) (base := base) T
  exact ⟨_, fd, _, hF, hm, hf.kp, bdd_all (hf.bindsN fun _ _ _ _ _ _ us hl => match us, hl with | [_, _, _], _ => rfl)⟩
theorem sc__law_table : FnScope ["_law_tape_here", "_law_table_here"] ["_law_tape_here"] (defScope s__law_table) := C8.fnScope_by (by decide +kernel)
theorem fn__law_table (T : TT K mg) : ∃ fd, FunD K "_law_table" "_law_table" (defArgs s__law_table) (defBody s__law_table) (defScope s__law_table) (d__law_table.dvs K) (d__law_table.kws K) (He.fAd K ("_law_table", none)) fd ∧ mg "_law_table" = some (.ref (He.fAd K ("_law_table", none))) ∧ FnD P w K mg base C8.CX0 3 (He.fAd K ("_law_table", none)) fd ["_law_tape_here"] F__law_table := by
  obtain ⟨fd, hf, hm⟩ := T.df d__law_table (List.mem_of_getElem? (i := 5) rfl)
  have SC := sc__law_table
  refine ⟨fd, hf, hm, fnd_of0 (k := 2) hf SC fun cdv B outer s H E hr hgd => ?_⟩
  exact (fss_cons (fs_set (i := 1) SC.nd rfl (.inl rfl) (fe_call (cal__law_names T) hr (by omega) hgd (by rfl) C8.pass0 (fa_cons (fe_var (pv 0)) (fa_cons (fe_lst (fa_cons (fe_str (by decide +kernel)) (fa_cons (fe_str (by decide +kernel)) (fa_cons (fe_str (by decide +kernel)) (fa_cons (fe_str (by decide +kernel)) (fa_cons (fe_str (by decide +kernel)) (fa_cons (fe_str (by decide +kernel)) (fa_cons (fe_str (by decide +kernel)) fa_nil)))))))) (fa_cons (fe_str (by decide +kernel)) fa_nil)))))
      (fss_cons (fs_expr (fe_mut mut_update (fe_var (pv 1)) (fa_cons (fe_call (cal__law_names T) hr (by omega) hgd (by rfl) C8.pass0 (fa_cons (fe_var (pv 0)) (fa_cons (fe_lst (fa_cons (fe_str (by decide +kernel)) (fa_cons (fe_str (by decide +kernel)) (fa_cons (fe_str (by decide +kernel)) (fa_cons (fe_str (by decide +kernel)) (fa_cons (fe_str (by decide +kernel)) (fa_cons (fe_str (by decide +kernel)) (fa_cons (fe_str (by decide +kernel)) fa_nil)))))))) (fa_cons (fe_str (by decide +kernel)) fa_nil)))) fa_nil)))
      (fss_cons (fs_expr (fe_mut mut_update (fe_var (pv 1)) (fa_cons (fe_call (cal__law_names T) hr (by omega) hgd (by rfl) C8.pass0 (fa_cons (fe_var (pv 0)) (fa_cons (fe_lst (fa_cons (fe_str (by decide +kernel)) (fa_cons (fe_str (by decide +kernel)) (fa_cons (fe_str (by decide +kernel)) (fa_cons (fe_str (by decide +kernel)) (fa_cons (fe_str (by decide +kernel)) (fa_cons (fe_str (by decide +kernel)) (fa_cons (fe_str (by decide +kernel)) fa_nil)))))))) (fa_cons (fe_str (by decide +kernel)) fa_nil)))) fa_nil)))
      (fss_one (fs_ret (fe_var (pv 1)))))))
theorem cal__law_table (T : TT K mg) : CalD P w K mg base C8.CX0 3 "_law_table" 1 [] gAll F__law_table := by
  obtain ⟨fd, hf, hm, hF⟩ := fn__law_table (P := P) (w := w) (base := base) T
  exact ⟨_, fd, _, hF, hm, hf.kp, bdd_all (hf.bindsN fun _ _ _ _ _ _ us hl => match us, hl with | [_], _ => rfl)⟩
theorem sc__law_pairs : FnScope ["_law_prog", "_law_found", "_law_slot", "_law_counter", "_law_one"] ["_law_prog"] (defScope s__law_pairs) := C8.fnScope_by (by decide +kernel)
theorem fn__law_pairs (T : TT K mg) : ∃ fd, FunD K "_law_pairs" "_law_pairs" (defArgs s__law_pairs) (defBody s__law_pairs) (defScope s__law_pairs) (d__law_pairs.dvs K) (d__law_pairs.kws K) (He.fAd K ("_law_pairs", none)) fd ∧ mg "_law_pairs" = some (.ref (He.fAd K ("_law_pairs", none))) ∧ FnD P w K mg base C8.CX0 1 (He.fAd K ("_law_pairs", none)) fd ["_law_prog"] F__law_pairs := by
  obtain ⟨fd, hf, hm⟩ := T.df d__law_pairs (List.mem_of_getElem? (i := 6) rfl)
  have SC := sc__law_pairs
  refine ⟨fd, hf, hm, fnd_of0 (k := 0) hf SC fun cdv B outer s H E hr hgd => ?_⟩
  exact (fss_cons (fs_set (i := 1) SC.nd rfl (.inl rfl) (fe_lst fa_nil))
      (fss_cons (fs_for PassesOwn.never rfl (fi_seq (fe_ix (ix_D (room_65 hr)) (fe_var (pv 0)) fe_int)) (fgw_n (fg_tup rfl (fgs_cons (fg_name (pg_name (i := 2) SC.nd rfl (.inr rfl))) (fgs_cons (fg_name (pg_name (i := 3) SC.nd rfl (.inr rfl))) fgs_nil)))) (fss_one (fs_set (i := 1) SC.nd rfl (.inl rfl) (fe_op op_addD (fe_var (pv 1)) (fe_comp (own := [("_law_one", 4)]) rfl SC.nd (fi_seq (fe_ix (ix_D (room_65 hr)) (fe_var (pv 0)) fe_int)) (blkOk_by (by rfl)) (fun _ _ _ _ _ => (fgc_name (pg_name (i := 4) SC.nd rfl (by first | exact .inl rfl | exact .inr rfl)))) (fun _ _ _ _ _ => (fts_one (PW.pt (fw_and (ft_cmp (op_neDD (room_64 hr)) (fe_ix (ix_D (room_65 hr)) (fe_var (pv 4)) fe_int) (fe_var (pv 2))) (fw_and1 (ft_cmp (op_eqDD (room_64 hr)) (fe_ix (ix_D (room_65 hr)) (fe_var (pv 4)) fe_int) (fe_var (pv 3)))))))) (fun _ _ _ _ _ => (fe_tup (fa_cons (fe_var (pv 2)) (fa_cons (fe_ix (ix_D (room_65 hr)) (fe_var (pv 4)) fe_int) fa_nil)))))))))
      (fss_one (fs_ret (fe_var (pv 1))))))
theorem cal__law_pairs (T : TT K mg) : CalD P w K mg base C8.CX0 1 "_law_pairs" 1 [] gAll F__law_pairs := by
  obtain ⟨fd, hf, hm, hF⟩ := fn__law_pairs (P := P) (w := w) (base := base) T
  exact ⟨_, fd, _, hF, hm, hf.kp, bdd_all (hf.bindsN fun _ _ _ _ _ _ us hl => match us, hl with | [_], _ => rfl)⟩
theorem sc__law_pick : FnScope ["_law_tape_here", "_law_rows"] ["_law_tape_here", "_law_rows"] (defScope s__law_pick) := C8.fnScope_by (by decide +kernel)
theorem fn__law_pick (T : TT K mg) : ∃ fd, FunD K "_law_pick" "_law_pick" (defArgs s__law_pick) (defBody s__law_pick) (defScope s__law_pick) (d__law_pick.dvs K) (d__law_pick.kws K) (He.fAd K ("_law_pick", none)) fd ∧ mg "_law_pick" = some (.ref (He.fAd K ("_law_pick", none))) ∧ FnD P w K mg base C8.CX0 2 (He.fAd K ("_law_pick", none)) fd ["_law_tape_here", "_law_rows"] F__law_pick := by
  obtain ⟨fd, hf, hm⟩ := T.df d__law_pick (List.mem_of_getElem? (i := 7) rfl)
  have SC := sc__law_pick
  refine ⟨fd, hf, hm, fnd_of0 (k := 1) hf SC fun cdv B outer s H E hr hgd => ?_⟩
  exact (fss_one (fs_ret (fe_ix (ix_D (room_65 hr)) (fe_var (pv 1)) (fe_call (cal__law_draw T) hr (by omega) hgd (by rfl) C8.pass0 (fa_cons (fe_var (pv 0)) (fa_cons (fe_callB call_lenD (by rfl) (T.fr "len" (List.mem_of_getElem? (i := 5) rfl)) (by decide +kernel) (fa_cons (fe_var (pv 1)) fa_nil)) fa_nil))))))
theorem cal__law_pick (T : TT K mg) : CalD P w K mg base C8.CX0 2 "_law_pick" 2 [] gAll F__law_pick := by
  obtain ⟨fd, hf, hm, hF⟩ := fn__law_pick (P := P) (w := w) (base := base) T
  exact ⟨_, fd, _, hF, hm, hf.kp, bdd_all (hf.bindsN fun _ _ _ _ _ _ us hl => match us, hl with | [_, _], _ => rfl)⟩
theorem sc__law_deed : FnScope ["_law_tape_here", "_law_prog", "_law_way", "_law_pairs_here"] ["_law_tape_here", "_law_prog"] (defScope s__law_deed) := C8.fnScope_by (by decide +kernel)
theorem fn__law_deed (T : TT K mg) : ∃ fd, FunD K "_law_deed" "_law_deed" (defArgs s__law_deed) (defBody s__law_deed) (defScope s__law_deed) (d__law_deed.dvs K) (d__law_deed.kws K) (He.fAd K ("_law_deed", none)) fd ∧ mg "_law_deed" = some (.ref (He.fAd K ("_law_deed", none))) ∧ FnD P w K mg base C8.CX0 3 (He.fAd K ("_law_deed", none)) fd ["_law_tape_here", "_law_prog"] F__law_deed := by
  obtain ⟨fd, hf, hm⟩ := T.df d__law_deed (List.mem_of_getElem? (i := 8) rfl)
  have SC := sc__law_deed
  refine ⟨fd, hf, hm, fnd_of0 (k := 2) hf SC fun cdv B outer s H E hr hgd => ?_⟩
  exact (fss_cons (fs_par (i := 2) (j := 3) rfl SC.nd rfl rfl (by decide) rfl rfl (fa_cons (fe_call (cal__law_draw T) hr (by omega) hgd (by rfl) C8.pass0 (fa_cons (fe_var (pv 0)) (fa_cons fe_int fa_nil))) (fa_cons (fe_call (cal__law_pairs T) hr (by omega) hgd (by rfl) C8.pass0 (fa_cons (fe_var (pv 1)) fa_nil)) fa_nil)) (by rfl))
      (fss_cons (fs_if (PW.pt (fw_and (ft_cmp op_ltD (fe_var (pv 2)) fe_int) (fw_and1 (ft_cmp (op_neDD (room_64 hr)) (fe_ix (ix_D (room_65 hr)) (fe_var (pv 1)) fe_int) (fe_tup fa_nil))))) (fss_one (fs_ret (fe_tup (fa_cons (fe_ix (ix_D (room_65 hr)) (fe_lst (fa_cons (fe_str (by decide +kernel)) (fa_cons (fe_str (by decide +kernel)) (fa_cons (fe_str (by decide +kernel)) (fa_cons (fe_str (by decide +kernel)) fa_nil))))) (fe_var (pv 2))) (fa_cons (fe_call (cal__law_pick T) hr (by omega) hgd (by rfl) C8.pass0 (fa_cons (fe_var (pv 0)) (fa_cons (fe_ix (ix_D (room_65 hr)) (fe_var (pv 1)) fe_int) fa_nil))) (fa_cons (fe_op op_addD fe_int (fe_call (cal__law_draw T) hr (by omega) hgd (by rfl) C8.pass0 (fa_cons (fe_var (pv 0)) (fa_cons fe_int fa_nil)))) fa_nil)))))) fss_nil)
      (fss_cons (fs_if (PW.pt (fw_and (ft_chain op_leD op_ltD fe_int (fe_var (pv 2)) fe_int) (fw_and1 (ft_cmp (op_neDD (room_64 hr)) (fe_ix (ix_D (room_65 hr)) (fe_var (pv 1)) fe_int) (fe_tup fa_nil))))) (fss_one (fs_ret (fe_tup (fa_cons (fe_ix (ix_D (room_65 hr)) (fe_lst (fa_cons (fe_str (by decide +kernel)) (fa_cons (fe_str (by decide +kernel)) (fa_cons (fe_str (by decide +kernel)) (fa_cons (fe_str (by decide +kernel)) (fa_cons (fe_str (by decide +kernel)) fa_nil)))))) (fe_op op_subD (fe_var (pv 2)) fe_int)) (fa_cons (fe_ix (ix_D (room_65 hr)) (fe_call (cal__law_pick T) hr (by omega) hgd (by rfl) C8.pass0 (fa_cons (fe_var (pv 0)) (fa_cons (fe_ix (ix_D (room_65 hr)) (fe_var (pv 1)) fe_int) fa_nil))) fe_int) fa_nil))))) fss_nil)
      (fss_cons (fs_if (PW.pt (fw_and (ft_cmp op_ltD (fe_var (pv 2)) fe_int) (fw_and1 (ft_cmp (op_neDD (room_64 hr)) (fe_var (pv 3)) (fe_lst fa_nil))))) (fss_one (fs_ret (fe_op op_addD (fe_tup (fa_cons (fe_call (cal__law_pick T) hr (by omega) hgd (by rfl) C8.pass0 (fa_cons (fe_var (pv 0)) (fa_cons (fe_lst (fa_cons (fe_str (by decide +kernel)) (fa_cons (fe_str (by decide +kernel)) (fa_cons (fe_str (by decide +kernel)) (fa_cons (fe_str (by decide +kernel)) (fa_cons (fe_str (by decide +kernel)) (fa_cons (fe_str (by decide +kernel)) fa_nil))))))) fa_nil))) fa_nil)) (fe_call (cal__law_pick T) hr (by omega) hgd (by rfl) C8.pass0 (fa_cons (fe_var (pv 0)) (fa_cons (fe_var (pv 3)) fa_nil)))))) fss_nil)
      (fss_one (fs_ret (fe_tup (fa_cons (fe_str (by decide +kernel)) (fa_cons (fe_call (cal__law_pick T) hr (by omega) hgd (by rfl) C8.pass0 (fa_cons (fe_var (pv 0)) (fa_cons (fe_lst (fa_cons (fe_str (by decide +kernel)) (fa_cons (fe_str (by decide +kernel)) (fa_cons (fe_str (by decide +kernel)) fa_nil)))) fa_nil))) fa_nil)))))))))
theorem cal__law_deed (T : TT K mg) : CalD P w K mg base C8.CX0 3 "_law_deed" 2 [] gAll F__law_deed := by
  obtain ⟨fd, hf, hm, hF⟩ := fn__law_deed (P := P) (w := w) (base := base) T
  exact ⟨_, fd, _, hF, hm, hf.kp, bdd_all (hf.bindsN fun _ _ _ _ _ _ us hl => match us, hl with | [_, _], _ => rfl)⟩
theorem sc__law_plain : FnScope ["_law_arrow_here"] ["_law_arrow_here"] (defScope s__law_plain) := C8.fnScope_by (by decide +kernel)
theorem fn__law_plain (T : TT K mg) : ∃ fd, FunD K "_law_plain" "_law_plain" (defArgs s__law_plain) (defBody s__law_plain) (defScope s__law_plain) (d__law_plain.dvs K) (d__law_plain.kws K) (He.fAd K ("_law_plain", none)) fd ∧ mg "_law_plain" = some (.ref (He.fAd K ("_law_plain", none))) ∧ FnD P w K mg base C8.CX0 1 (He.fAd K ("_law_plain", none)) fd ["_law_arrow_here"] F__law_plain := by
  obtain ⟨fd, hf, hm⟩ := T.df d__law_plain (List.mem_of_getElem? (i := 9) rfl)
  have SC := sc__law_plain
  refine ⟨fd, hf, hm, fnd_of0 (k := 0) hf SC fun cdv B outer s H E hr hgd => ?_⟩
  exact (fss_one (fs_ret (fe_if (ft_cmp (op_eqDD (room_64 hr)) (fe_ix (ix_D (room_65 hr)) (fe_ix (ix_D (room_65 hr)) (fe_var (pv 0)) fe_int) fe_int) (fe_str (by decide +kernel))) (fe_tup (fa_cons (fe_ix (ix_D (room_65 hr)) (fe_var (pv 0)) fe_int) (fa_cons (fe_op op_addD (fe_tup (fa_cons (fe_str (by decide +kernel)) fa_nil)) (fe_sl (fe_ix (ix_D (room_65 hr)) (fe_var (pv 0)) fe_int) (fo_some fe_int) fo_none)) (fa_cons (fe_ix (ix_D (room_65 hr)) (fe_var (pv 0)) fe_int) fa_nil)))) (fe_var (pv 0)))))
theorem cal__law_plain (T : TT K mg) : CalD P w K mg base C8.CX0 1 "_law_plain" 1 [] gAll F__law_plain := by
  obtain ⟨fd, hf, hm, hF⟩ := fn__law_plain (P := P) (w := w) (base := base) T
  exact ⟨_, fd, _, hF, hm, hf.kp, bdd_all (hf.bindsN fun _ _ _ _ _ _ us hl => match us, hl with | [_], _ => rfl)⟩
theorem sc__law_grown : FnScope ["_law_tape_here", "_law_prog", "_law_places", "_law_i", "_law_name", "_law_arrows", "_law_arrow_here", "_law_one"] ["_law_tape_here", "_law_prog", "_law_places"] (defScope s__law_grown) := C8.fnScope_by (by decide +kernel)
theorem fn__law_grown (T : TT K mg) : ∃ fd, FunD K "_law_grown" "_law_grown" (defArgs s__law_grown) (defBody s__law_grown) (defScope s__law_grown) (d__law_grown.dvs K) (d__law_grown.kws K) (He.fAd K ("_law_grown", none)) fd ∧ mg "_law_grown" = some (.ref (He.fAd K ("_law_grown", none))) ∧ FnD P w K mg base C8.CX0 4 (He.fAd K ("_law_grown", none)) fd ["_law_tape_here", "_law_prog", "_law_places"] F__law_grown := by
  obtain ⟨fd, hf, hm⟩ := T.df d__law_grown (List.mem_of_getElem? (i := 10) rfl)
  have SC := sc__law_grown
  refine ⟨fd, hf, hm, fnd_of0 (k := 3) hf SC fun cdv B outer s H E hr hgd => ?_⟩
  exact (fss_cons (fs_if (ft_cmp (op_eqDD (room_64 hr)) (fe_ix (ix_D (room_65 hr)) (fe_var (pv 1)) fe_int) (fe_tup fa_nil)) (fss_one (fs_ret (fe_var (pv 1)))) fss_nil)
      (fss_cons (fs_set (i := 3) SC.nd rfl (.inl rfl) (fe_call (cal__law_draw T) hr (by omega) hgd (by rfl) C8.pass0 (fa_cons (fe_var (pv 0)) (fa_cons (fe_callB call_lenD (by rfl) (T.fr "len" (List.mem_of_getElem? (i := 5) rfl)) (by decide +kernel) (fa_cons (fe_ix (ix_D (room_65 hr)) (fe_var (pv 1)) fe_int) fa_nil)) fa_nil))))
      (fss_cons (fs_asg (fe_ix (ix_D (room_65 hr)) (fe_ix (ix_D (room_65 hr)) (fe_var (pv 1)) fe_int) (fe_var (pv 3))) (fg_tup rfl (fgs_cons (fg_name (pg_name (i := 4) SC.nd rfl (.inl rfl))) (fgs_cons (fg_name (pg_name (i := 5) SC.nd rfl (.inl rfl))) fgs_nil))))
      (fss_cons (fs_set (i := 6) SC.nd rfl (.inl rfl) (fe_tup (fa_cons (fe_call (cal__law_draw T) hr (by omega) hgd (by rfl) C8.pass0 (fa_cons (fe_var (pv 0)) (fa_cons (fe_var (pv 2)) fa_nil))) (fa_cons (fe_call (cal__law_deed T) hr (by omega) hgd (by rfl) C8.pass0 (fa_cons (fe_var (pv 0)) (fa_cons (fe_var (pv 1)) fa_nil))) (fa_cons (fe_call (cal__law_draw T) hr (by omega) hgd (by rfl) C8.pass0 (fa_cons (fe_var (pv 0)) (fa_cons (fe_var (pv 2)) fa_nil))) fa_nil)))))
      (fss_cons (fs_if (PW.pt (fw_or (ft_cmp op_gtD (fe_callB call_lenD (by rfl) (T.fr "len" (List.mem_of_getElem? (i := 5) rfl)) (by decide +kernel) (fa_cons (fe_var (pv 5)) fa_nil)) fe_int) (fw_or (ft_cmp op_gtD (fe_meth meth_count (fe_callB (call_reprD hgd (room_u hr)) (by rfl) (T.fr "repr" (List.mem_of_getElem? (i := 7) rfl)) (by decide +kernel) (fa_cons (fe_var (pv 1)) fa_nil)) (fa_cons (fe_str (by decide +kernel)) fa_nil)) fe_int) (fw_or1 (ft_cmp (op_inDD (room_65 hr)) (fe_call (cal__law_plain T) hr (by omega) hgd (by rfl) C8.pass0 (fa_cons (fe_var (pv 6)) fa_nil)) (fe_comp (own := [("_law_one", 7)]) rfl SC.nd (fi_seq (fe_var (pv 5))) (blkOk_by (by rfl)) (fun _ _ _ _ _ => (fgc_name (pg_name (i := 7) SC.nd rfl (by first | exact .inl rfl | exact .inr rfl)))) (fun _ _ _ _ _ => fts_nil) (fun _ _ _ _ _ => (fe_call (cal__law_plain T) hr (by omega) hgd (by rfl) C8.pass0 (fa_cons (fe_var (pv 7)) fa_nil))))))))) (fss_one (fs_ret (fe_var (pv 1)))) fss_nil)
      (fss_one (fs_ret (fe_op op_addD (fe_sl (fe_var (pv 1)) fo_none (fo_some fe_int)) (fe_tup (fa_cons (fe_op op_addD (fe_op op_addD (fe_sl (fe_ix (ix_D (room_65 hr)) (fe_var (pv 1)) fe_int) fo_none (fo_some (fe_var (pv 3)))) (fe_tup (fa_cons (fe_tup (fa_cons (fe_var (pv 4)) (fa_cons (fe_op op_addD (fe_var (pv 5)) (fe_tup (fa_cons (fe_var (pv 6)) fa_nil))) fa_nil))) fa_nil))) (fe_sl (fe_ix (ix_D (room_65 hr)) (fe_var (pv 1)) fe_int) (fo_some (fe_op op_addD (fe_var (pv 3)) fe_int)) fo_none)) fa_nil))))))))))
theorem cal__law_grown (T : TT K mg) : CalD P w K mg base C8.CX0 4 "_law_grown" 3 [] gAll F__law_grown := by
  obtain ⟨fd, hf, hm, hF⟩ := fn__law_grown (P := P) (w := w) (base := base) T
  exact ⟨_, fd, _, hF, hm, hf.kp, bdd_all (hf.bindsN fun _ _ _ _ _ _ us hl => match us, hl with | [_, _, _], _ => rfl)⟩
theorem sc__law_free : FnScope ["_law_tape_here", "_law_table_here", "_law_counters", "_law_slots", "_law_parties", "_law_prog", "_law_places", "_law_k", "_law_sign"] ["_law_tape_here", "_law_table_here"] (defScope s__law_free) := C8.fnScope_by (by decide +kernel)
theorem fn__law_free (T : TT K mg) : ∃ fd, FunD K "_law_free" "_law_free" (defArgs s__law_free) (defBody s__law_free) (defScope s__law_free) (d__law_free.dvs K) (d__law_free.kws K) (He.fAd K ("_law_free", none)) fd ∧ mg "_law_free" = some (.ref (He.fAd K ("_law_free", none))) ∧ FnD P w K mg base C8.CX0 5 (He.fAd K ("_law_free", none)) fd ["_law_tape_here", "_law_table_here"] F__law_free := by
  obtain ⟨fd, hf, hm⟩ := T.df d__law_free (List.mem_of_getElem? (i := 11) rfl)
  have SC := sc__law_free
  refine ⟨fd, hf, hm, fnd_of0 (k := 4) hf SC fun cdv B outer s H E hr hgd => ?_⟩
  exact (fss_cons (fs_set (i := 2) SC.nd rfl (.inr rfl) (fe_comp (own := [("_law_sign", 8)]) rfl SC.nd (fi_seq (fe_sl (fe_str (by decide +kernel)) fo_none (fo_some (fe_op op_addD fe_int (fe_call (cal__law_draw T) hr (by omega) hgd (by rfl) C8.pass0 (fa_cons (fe_var (pv 0)) (fa_cons fe_int fa_nil))))))) (blkOk_by (by rfl)) (fun _ _ _ _ _ => (fgc_name (pg_name (i := 8) SC.nd rfl (by first | exact .inl rfl | exact .inr rfl)))) (fun _ _ _ _ _ => fts_nil) (fun _ _ _ _ _ => (fe_ix (ix_D (room_65 hr)) (fe_var (pv 1)) (fe_var (pv 8))))))
      (fss_cons (fs_setComp (i := 3) (own := [("_law_sign", 8)]) rfl SC.nd rfl rfl (by rfl) (fi_seq (fe_sl (fe_str (by decide +kernel)) fo_none (fo_some (fe_call (cal__law_draw T) hr (by omega) hgd (by rfl) C8.pass0 (fa_cons (fe_var (pv 0)) (fa_cons fe_int fa_nil)))))) (blkOk_by (by rfl)) (fun _ _ _ _ _ => (fgc_name (pg_name (i := 8) SC.nd rfl (by first | exact .inl rfl | exact .inr rfl)))) (fun _ _ _ _ _ => fts_nil) (fun _ _ _ _ _ => (fe_tup (fa_cons (fe_ix (ix_D (room_65 hr)) (fe_var (pv 1)) (fe_var (pv 8))) (fa_cons (fe_call (cal__law_pick T) hr (by omega) hgd (by rfl) C8.pass0 (fa_cons (fe_var (pv 0)) (fa_cons (fe_var (pv 2)) fa_nil))) fa_nil)))))
      (fss_cons (fs_setComp (i := 4) (own := [("_law_sign", 8)]) rfl SC.nd rfl rfl (by rfl) (fi_seq (fe_sl (fe_str (by decide +kernel)) fo_none (fo_some (fe_op op_addD fe_int (fe_call (cal__law_draw T) hr (by omega) hgd (by rfl) C8.pass0 (fa_cons (fe_var (pv 0)) (fa_cons fe_int fa_nil))))))) (blkOk_by (by rfl)) (fun _ _ _ _ _ => (fgc_name (pg_name (i := 8) SC.nd rfl (by first | exact .inl rfl | exact .inr rfl)))) (fun _ _ _ _ _ => fts_nil) (fun _ _ _ _ _ => (fe_tup (fa_cons (fe_ix (ix_D (room_65 hr)) (fe_var (pv 1)) (fe_var (pv 8))) (fa_cons (fe_tup fa_nil) fa_nil)))))
      (fss_cons (fs_par (i := 5) (j := 6) rfl SC.nd rfl rfl (by decide) rfl rfl (fa_cons (fe_tup (fa_cons (fe_callTy call_tupleD (by rfl) (T.fr "tuple" (List.mem_of_getElem? (i := 10) rfl)) (by decide +kernel) (fa_cons (fe_callB call_sortedD (by rfl) (T.fr "sorted" (List.mem_of_getElem? (i := 8) rfl)) (by decide +kernel) (fa_cons (fe_var (pv 2)) fa_nil)) fa_nil)) (fa_cons (fe_callTy call_tupleD (by rfl) (T.fr "tuple" (List.mem_of_getElem? (i := 10) rfl)) (by decide +kernel) (fa_cons (fe_callB call_sortedD (by rfl) (T.fr "sorted" (List.mem_of_getElem? (i := 8) rfl)) (by decide +kernel) (fa_cons (fe_var (pv 3)) fa_nil)) fa_nil)) (fa_cons (fe_callTy call_tupleD (by rfl) (T.fr "tuple" (List.mem_of_getElem? (i := 10) rfl)) (by decide +kernel) (fa_cons (fe_callB call_sortedD (by rfl) (T.fr "sorted" (List.mem_of_getElem? (i := 8) rfl)) (by decide +kernel) (fa_cons (fe_var (pv 4)) fa_nil)) fa_nil)) fa_nil)))) (fa_cons (fe_op op_addD fe_int (fe_call (cal__law_draw T) hr (by omega) hgd (by rfl) C8.pass0 (fa_cons (fe_var (pv 0)) (fa_cons fe_int fa_nil)))) fa_nil)) (by rfl))
      (fss_cons (fs_for PassesOwn.never rfl (fi_range1 (by rfl) (T.fr "range" (List.mem_of_getElem? (i := 6) rfl)) (fa_cons (fe_op op_addD fe_int (fe_call (cal__law_draw T) hr (by omega) hgd (by rfl) C8.pass0 (fa_cons (fe_var (pv 0)) (fa_cons fe_int fa_nil)))) fa_nil)) (fgw_n (fg_name (pg_name (i := 7) SC.nd rfl (.inl rfl)))) (fss_one (fs_set (i := 5) SC.nd rfl (.inl rfl) (fe_call (cal__law_grown T) hr (by omega) hgd (by rfl) C8.pass0 (fa_cons (fe_var (pv 0)) (fa_cons (fe_var (pv 5)) (fa_cons (fe_var (pv 6)) fa_nil)))))))
      (fss_one (fs_ret (fe_var (pv 5)))))))))
theorem cal__law_free (T : TT K mg) : CalD P w K mg base C8.CX0 5 "_law_free" 2 [] gAll F__law_free := by
  obtain ⟨fd, hf, hm, hF⟩ := fn__law_free (P := P) (w := w) (base := base) T
  exact ⟨_, fd, _, hF, hm, hf.kp, bdd_all (hf.bindsN fun _ _ _ _ _ _ us hl => match us, hl with | [_, _], _ => rfl)⟩
theorem sc__law_scenes : FnScope ["_law_ways", "_law_rows", "_law_two", "_law_third", "_law_four"] [] (defScope s__law_scenes) := C8.fnScope_by (by decide +kernel)
theorem fn__law_scenes (T : TT K mg) : ∃ fd, FunD K "_law_scenes" "_law_scenes" (defArgs s__law_scenes) (defBody s__law_scenes) (defScope s__law_scenes) (d__law_scenes.dvs K) (d__law_scenes.kws K) (He.fAd K ("_law_scenes", none)) fd ∧ mg "_law_scenes" = some (.ref (He.fAd K ("_law_scenes", none))) ∧ FnD P w K mg base C8.CX0 1 (He.fAd K ("_law_scenes", none)) fd [] F__law_scenes := by
  obtain ⟨fd, hf, hm⟩ := T.df d__law_scenes (List.mem_of_getElem? (i := 12) rfl)
  have SC := sc__law_scenes
  refine ⟨fd, hf, hm, fnd_of0 (k := 0) hf SC fun cdv B outer s H E hr hgd => ?_⟩
  exact (fss_cons (fs_set (i := 0) SC.nd rfl (.inl rfl) (fe_str (by decide +kernel)))
      (fss_cons (fs_set (i := 1) SC.nd rfl (.inl rfl) (fe_newL (fa_cons (fe_str (by decide +kernel)) (fa_cons (fe_op op_addD (fe_str (by decide +kernel)) (fe_var (pv 0))) fa_nil))))
      (fss_cons (fs_set (i := 1) SC.nd rfl (.inl rfl) (fe_catM (fe_var (pv 1)) (fe_lst (fa_cons (fe_str (by decide +kernel)) (fa_cons (fe_op op_addD (fe_str (by decide +kernel)) (fe_var (pv 0))) fa_nil)))))
      (fss_cons (fs_expr (fe_mut mut_append (fe_var (pv 1)) (fa_cons (fe_op op_addD (fe_str (by decide +kernel)) (fe_var (pv 0))) fa_nil)))
      (fss_cons (fs_expr (fe_mut mut_append (fe_var (pv 1)) (fa_cons (fe_str (by decide +kernel)) fa_nil)))
      (fss_cons (fs_expr (fe_mut mut_append (fe_var (pv 1)) (fa_cons (fe_op op_addD (fe_str (by decide +kernel)) (fe_var (pv 0))) fa_nil)))
      (fss_cons (fs_expr (fe_mut mut_append (fe_var (pv 1)) (fa_cons (fe_str (by decide +kernel)) fa_nil)))
      (fss_cons (fs_expr (fe_mut mut_append (fe_var (pv 1)) (fa_cons (fe_str (by decide +kernel)) fa_nil)))
      (fss_cons (fs_expr (fe_mut mut_append (fe_var (pv 1)) (fa_cons (fe_str (by decide +kernel)) fa_nil)))
      (fss_cons (fs_expr (fe_mut mut_append (fe_var (pv 1)) (fa_cons (fe_str (by decide +kernel)) fa_nil)))
      (fss_cons (fs_expr (fe_mut mut_append (fe_var (pv 1)) (fa_cons (fe_str (by decide +kernel)) fa_nil)))
      (fss_cons (fs_set (i := 2) SC.nd rfl (.inl rfl) (fe_str (by decide +kernel)))
      (fss_cons (fs_expr (fe_mut mut_append (fe_var (pv 1)) (fa_cons (fe_op op_addD (fe_var (pv 2)) (fe_str (by decide +kernel))) fa_nil)))
      (fss_cons (fs_set (i := 3) SC.nd rfl (.inl rfl) (fe_str (by decide +kernel)))
      (fss_cons (fs_set (i := 1) SC.nd rfl (.inl rfl) (fe_catM (fe_var (pv 1)) (fe_lst (fa_cons (fe_var (pv 3)) (fa_cons (fe_str (by decide +kernel)) fa_nil)))))
      (fss_cons (fs_set (i := 4) SC.nd rfl (.inl rfl) (fe_str (by decide +kernel)))
      (fss_cons (fs_expr (fe_mut mut_append (fe_var (pv 1)) (fa_cons (fe_op op_addD (fe_var (pv 4)) (fe_str (by decide +kernel))) fa_nil)))
      (fss_one (fs_ret (fe_op op_addD (fe_var (pv 1)) (fe_lst (fa_cons (fe_str (by decide +kernel)) (fa_cons (fe_str (by decide +kernel)) (fa_cons (fe_str (by decide +kernel)) fa_nil))))))))))))))))))))))))
theorem cal__law_scenes (T : TT K mg) : CalD P w K mg base C8.CX0 1 "_law_scenes" 0 [] gAll F__law_scenes := by
  obtain ⟨fd, hf, hm, hF⟩ := fn__law_scenes (P := P) (w := w) (base := base) T
  exact ⟨_, fd, _, hF, hm, hf.kp, bdd_all (hf.bindsN fun _ _ _ _ _ _ us hl => match us, hl with | [], _ => rfl)⟩
theorem sc__law_program : FnScope ["_law_tape_here", "_law_table_here", "_law_way", "_law_prog"] ["_law_tape_here"] (defScope s__law_program) := C8.fnScope_by (by decide +kernel)
theorem fn__law_program (T : TT K mg) : ∃ fd, FunD K "_law_program" "_law_program" (defArgs s__law_program) (defBody s__law_program) (defScope s__law_program) (d__law_program.dvs K) (d__law_program.kws K) (He.fAd K ("_law_program", none)) fd ∧ mg "_law_program" = some (.ref (He.fAd K ("_law_program", none))) ∧ FnD P w K mg base C8.CX0 6 (He.fAd K ("_law_program", none)) fd ["_law_tape_here"] F__law_program := by
  obtain ⟨fd, hf, hm⟩ := T.df d__law_program (List.mem_of_getElem? (i := 13) rfl)
  have SC := sc__law_program
  refine ⟨fd, hf, hm, fnd_of0 (k := 5) hf SC fun cdv B outer s H E hr hgd => ?_⟩
  exact (fss_cons (fs_par (i := 1) (j := 2) rfl SC.nd rfl rfl (by decide) rfl rfl (fa_cons (fe_call (cal__law_table T) hr (by omega) hgd (by rfl) C8.pass0 (fa_cons (fe_var (pv 0)) fa_nil)) (fa_cons (fe_call (cal__law_draw T) hr (by omega) hgd (by rfl) C8.pass0 (fa_cons (fe_var (pv 0)) (fa_cons fe_int fa_nil))) fa_nil)) (by rfl))
      (fss_cons (fs_if (ft_cmp (op_eqDD (room_64 hr)) (fe_var (pv 2)) fe_int) (fss_one (fs_ret (fe_call (cal__law_free T) hr (by omega) hgd (by rfl) C8.pass0 (fa_cons (fe_var (pv 0)) (fa_cons (fe_var (pv 1)) fa_nil))))) fss_nil)
      (fss_cons (fs_set (i := 3) SC.nd rfl (.inl rfl) (fe_call (cal__law_written T) hr (by omega) hgd (by rfl) C8.pass0 (fa_cons (fe_call (cal__law_pick T) hr (by omega) hgd (by rfl) C8.pass0 (fa_cons (fe_var (pv 0)) (fa_cons (fe_call0 (cal__law_scenes T) hr (by omega) hgd (by rfl) C8.pass0) fa_nil))) (fa_cons (fe_var (pv 1)) fa_nil))))
      (fss_one (fs_ret (fe_if (ft_cmp op_ltD (fe_var (pv 2)) fe_int) (fe_call (cal__law_grown T) hr (by omega) hgd (by rfl) C8.pass0 (fa_cons (fe_var (pv 0)) (fa_cons (fe_var (pv 3)) (fa_cons fe_int fa_nil)))) (fe_var (pv 3))))))))
theorem cal__law_program (T : TT K mg) : CalD P w K mg base C8.CX0 6 "_law_program" 1 [] gAll F__law_program := by
  obtain ⟨fd, hf, hm, hF⟩ := fn__law_program (P := P) (w := w) (base := base) T
  exact ⟨_, fd, _, hF, hm, hf.kp, bdd_all (hf.bindsN fun _ _ _ _ _ _ us hl => match us, hl with | [_], _ => rfl)⟩
theorem sc__law_begun : FnScope ["_law_prog"] ["_law_prog"] (defScope s__law_begun) := C8.fnScope_by (by decide +kernel)
theorem fn__law_begun (T : TT K mg) : ∃ fd, FunD K "_law_begun" "_law_begun" (defArgs s__law_begun) (defBody s__law_begun) (defScope s__law_begun) (d__law_begun.dvs K) (d__law_begun.kws K) (He.fAd K ("_law_begun", none)) fd ∧ mg "_law_begun" = some (.ref (He.fAd K ("_law_begun", none))) ∧ FnD P w K mg base C8.CX0 1 (He.fAd K ("_law_begun", none)) fd ["_law_prog"] F__law_begun := by
  obtain ⟨fd, hf, hm⟩ := T.df d__law_begun (List.mem_of_getElem? (i := 14) rfl)
  have SC := sc__law_begun
  refine ⟨fd, hf, hm, fnd_of0 (k := 0) hf SC fun cdv B outer s H E hr hgd => ?_⟩
  exact (fss_one (fs_ret (fe_tup (fa_cons (fe_op op_mulD (fe_tup (fa_cons fe_int fa_nil)) (fe_callB call_lenD (by rfl) (T.fr "len" (List.mem_of_getElem? (i := 5) rfl)) (by decide +kernel) (fa_cons (fe_ix (ix_D (room_65 hr)) (fe_var (pv 0)) fe_int) fa_nil))) (fa_cons (fe_op op_mulD (fe_tup (fa_cons fe_int fa_nil)) (fe_callB call_lenD (by rfl) (T.fr "len" (List.mem_of_getElem? (i := 5) rfl)) (by decide +kernel) (fa_cons (fe_ix (ix_D (room_65 hr)) (fe_var (pv 0)) fe_int) fa_nil))) (fa_cons (fe_op op_mulD (fe_tup (fa_cons fe_int fa_nil)) (fe_callB call_lenD (by rfl) (T.fr "len" (List.mem_of_getElem? (i := 5) rfl)) (by decide +kernel) (fa_cons (fe_ix (ix_D (room_65 hr)) (fe_var (pv 0)) fe_int) fa_nil))) fa_nil))))))
theorem cal__law_begun (T : TT K mg) : CalD P w K mg base C8.CX0 1 "_law_begun" 1 [] gAll F__law_begun := by
  obtain ⟨fd, hf, hm, hF⟩ := fn__law_begun (P := P) (w := w) (base := base) T
  exact ⟨_, fd, _, hF, hm, hf.kp, bdd_all (hf.bindsN fun _ _ _ _ _ _ us hl => match us, hl with | [_], _ => rfl)⟩
theorem sc__law_at : FnScope ["_law_rows", "_law_name", "_law_row"] ["_law_rows", "_law_name"] (defScope s__law_at) := C8.fnScope_by (by decide +kernel)
theorem fn__law_at (T : TT K mg) : ∃ fd, FunD K "_law_at" "_law_at" (defArgs s__law_at) (defBody s__law_at) (defScope s__law_at) (d__law_at.dvs K) (d__law_at.kws K) (He.fAd K ("_law_at", none)) fd ∧ mg "_law_at" = some (.ref (He.fAd K ("_law_at", none))) ∧ FnD P w K mg base C8.CX0 1 (He.fAd K ("_law_at", none)) fd ["_law_rows", "_law_name"] F__law_at := by
  obtain ⟨fd, hf, hm⟩ := T.df d__law_at (List.mem_of_getElem? (i := 15) rfl)
  have SC := sc__law_at
  refine ⟨fd, hf, hm, fnd_of0 (k := 0) hf SC fun cdv B outer s H E hr hgd => ?_⟩
  exact (fss_one (fs_ret (fe_meth (meth_index (room_65 hr)) (fe_comp (own := [("_law_row", 2)]) rfl SC.nd (fi_seq (fe_var (pv 0))) (blkOk_by (by rfl)) (fun _ _ _ _ _ => (fgc_name (pg_name (i := 2) SC.nd rfl (by first | exact .inl rfl | exact .inr rfl)))) (fun _ _ _ _ _ => fts_nil) (fun _ _ _ _ _ => (fe_ix (ix_D (room_65 hr)) (fe_var (pv 2)) fe_int))) (fa_cons (fe_var (pv 1)) fa_nil))))
theorem cal__law_at (T : TT K mg) : CalD P w K mg base C8.CX0 1 "_law_at" 2 [] gAll F__law_at := by
  obtain ⟨fd, hf, hm, hF⟩ := fn__law_at (P := P) (w := w) (base := base) T
  exact ⟨_, fd, _, hF, hm, hf.kp, bdd_all (hf.bindsN fun _ _ _ _ _ _ us hl => match us, hl with | [_, _], _ => rfl)⟩
theorem sc__law_arrow_of : FnScope ["_law_prog", "_law_act"] ["_law_prog", "_law_act"] (defScope s__law_arrow_of) := C8.fnScope_by (by decide +kernel)
theorem fn__law_arrow_of (T : TT K mg) : ∃ fd, FunD K "_law_arrow_of" "_law_arrow_of" (defArgs s__law_arrow_of) (defBody s__law_arrow_of) (defScope s__law_arrow_of) (d__law_arrow_of.dvs K) (d__law_arrow_of.kws K) (He.fAd K ("_law_arrow_of", none)) fd ∧ mg "_law_arrow_of" = some (.ref (He.fAd K ("_law_arrow_of", none))) ∧ FnD P w K mg base C8.CX0 2 (He.fAd K ("_law_arrow_of", none)) fd ["_law_prog", "_law_act"] F__law_arrow_of := by
  obtain ⟨fd, hf, hm⟩ := T.df d__law_arrow_of (List.mem_of_getElem? (i := 16) rfl)
  have SC := sc__law_arrow_of
  refine ⟨fd, hf, hm, fnd_of0 (k := 1) hf SC fun cdv B outer s H E hr hgd => ?_⟩
  exact (fss_one (fs_ret (fe_ix (ix_D (room_65 hr)) (fe_ix (ix_D (room_65 hr)) (fe_ix (ix_D (room_65 hr)) (fe_ix (ix_D (room_65 hr)) (fe_var (pv 0)) fe_int) (fe_call (cal__law_at T) hr (by omega) hgd (by rfl) C8.pass0 (fa_cons (fe_ix (ix_D (room_65 hr)) (fe_var (pv 0)) fe_int) (fa_cons (fe_ix (ix_D (room_65 hr)) (fe_var (pv 1)) fe_int) fa_nil)))) fe_int) (fe_ix (ix_D (room_65 hr)) (fe_var (pv 1)) fe_int))))
theorem cal__law_arrow_of (T : TT K mg) : CalD P w K mg base C8.CX0 2 "_law_arrow_of" 2 [] gAll F__law_arrow_of := by
  obtain ⟨fd, hf, hm, hF⟩ := fn__law_arrow_of (P := P) (w := w) (base := base) T
  exact ⟨_, fd, _, hF, hm, hf.kp, bdd_all (hf.bindsN fun _ _ _ _ _ _ us hl => match us, hl with | [_, _], _ => rfl)⟩
theorem sc__law_put : FnScope ["_law_row", "_law_at_here", "_law_what"] ["_law_row", "_law_at_here", "_law_what"] (defScope s__law_put) := C8.fnScope_by (by decide +kernel)
theorem fn__law_put (T : TT K mg) : ∃ fd, FunD K "_law_put" "_law_put" (defArgs s__law_put) (defBody s__law_put) (defScope s__law_put) (d__law_put.dvs K) (d__law_put.kws K) (He.fAd K ("_law_put", none)) fd ∧ mg "_law_put" = some (.ref (He.fAd K ("_law_put", none))) ∧ FnD P w K mg base C8.CX0 1 (He.fAd K ("_law_put", none)) fd ["_law_row", "_law_at_here", "_law_what"] F__law_put := by
  obtain ⟨fd, hf, hm⟩ := T.df d__law_put (List.mem_of_getElem? (i := 17) rfl)
  have SC := sc__law_put
  refine ⟨fd, hf, hm, fnd_of0 (k := 0) hf SC fun cdv B outer s H E hr hgd => ?_⟩
  exact (fss_one (fs_ret (fe_op op_addD (fe_op op_addD (fe_sl (fe_var (pv 0)) fo_none (fo_some (fe_var (pv 1)))) (fe_tup (fa_cons (fe_var (pv 2)) fa_nil))) (fe_sl (fe_var (pv 0)) (fo_some (fe_op op_addD (fe_var (pv 1)) fe_int)) fo_none))))
theorem cal__law_put (T : TT K mg) : CalD P w K mg base C8.CX0 1 "_law_put" 3 [] gAll F__law_put := by
  obtain ⟨fd, hf, hm, hF⟩ := fn__law_put (P := P) (w := w) (base := base) T
  exact ⟨_, fd, _, hF, hm, hf.kp, bdd_all (hf.bindsN fun _ _ _ _ _ _ us hl => match us, hl with | [_, _, _], _ => rfl)⟩
theorem sc__law_count : FnScope ["_law_prog", "_law_state", "_law_slot"] ["_law_prog", "_law_state", "_law_slot"] (defScope s__law_count) := C8.fnScope_by (by decide +kernel)
theorem fn__law_count (T : TT K mg) : ∃ fd, FunD K "_law_count" "_law_count" (defArgs s__law_count) (defBody s__law_count) (defScope s__law_count) (d__law_count.dvs K) (d__law_count.kws K) (He.fAd K ("_law_count", none)) fd ∧ mg "_law_count" = some (.ref (He.fAd K ("_law_count", none))) ∧ FnD P w K mg base C8.CX0 2 (He.fAd K ("_law_count", none)) fd ["_law_prog", "_law_state", "_law_slot"] F__law_count := by
  obtain ⟨fd, hf, hm⟩ := T.df d__law_count (List.mem_of_getElem? (i := 18) rfl)
  have SC := sc__law_count
  refine ⟨fd, hf, hm, fnd_of0 (k := 1) hf SC fun cdv B outer s H E hr hgd => ?_⟩
  exact (fss_one (fs_ret (fe_ix (ix_D (room_65 hr)) (fe_ix (ix_D (room_65 hr)) (fe_var (pv 1)) fe_int) (fe_meth (meth_index (room_65 hr)) (fe_ix (ix_D (room_65 hr)) (fe_var (pv 0)) fe_int) (fa_cons (fe_ix (ix_D (room_65 hr)) (fe_ix (ix_D (room_65 hr)) (fe_ix (ix_D (room_65 hr)) (fe_var (pv 0)) fe_int) (fe_call (cal__law_at T) hr (by omega) hgd (by rfl) C8.pass0 (fa_cons (fe_ix (ix_D (room_65 hr)) (fe_var (pv 0)) fe_int) (fa_cons (fe_var (pv 2)) fa_nil)))) fe_int) fa_nil)))))
theorem cal__law_count (T : TT K mg) : CalD P w K mg base C8.CX0 2 "_law_count" 3 [] gAll F__law_count := by
  obtain ⟨fd, hf, hm, hF⟩ := fn__law_count (P := P) (w := w) (base := base) T
  exact ⟨_, fd, _, hF, hm, hf.kp, bdd_all (hf.bindsN fun _ _ _ _ _ _ us hl => match us, hl with | [_, _, _], _ => rfl)⟩
theorem sc__law_stamp : FnScope ["_law_prog", "_law_state", "_law_slot"] ["_law_prog", "_law_state", "_law_slot"] (defScope s__law_stamp) := C8.fnScope_by (by decide +kernel)
theorem fn__law_stamp (T : TT K mg) : ∃ fd, FunD K "_law_stamp" "_law_stamp" (defArgs s__law_stamp) (defBody s__law_stamp) (defScope s__law_stamp) (d__law_stamp.dvs K) (d__law_stamp.kws K) (He.fAd K ("_law_stamp", none)) fd ∧ mg "_law_stamp" = some (.ref (He.fAd K ("_law_stamp", none))) ∧ FnD P w K mg base C8.CX0 2 (He.fAd K ("_law_stamp", none)) fd ["_law_prog", "_law_state", "_law_slot"] F__law_stamp := by
  obtain ⟨fd, hf, hm⟩ := T.df d__law_stamp (List.mem_of_getElem? (i := 19) rfl)
  have SC := sc__law_stamp
  refine ⟨fd, hf, hm, fnd_of0 (k := 1) hf SC fun cdv B outer s H E hr hgd => ?_⟩
  exact (fss_one (fs_ret (fe_ix (ix_D (room_65 hr)) (fe_ix (ix_D (room_65 hr)) (fe_var (pv 1)) fe_int) (fe_call (cal__law_at T) hr (by omega) hgd (by rfl) C8.pass0 (fa_cons (fe_ix (ix_D (room_65 hr)) (fe_var (pv 0)) fe_int) (fa_cons (fe_var (pv 2)) fa_nil))))))
theorem cal__law_stamp (T : TT K mg) : CalD P w K mg base C8.CX0 2 "_law_stamp" 3 [] gAll F__law_stamp := by
  obtain ⟨fd, hf, hm, hF⟩ := fn__law_stamp (P := P) (w := w) (base := base) T
  exact ⟨_, fd, _, hF, hm, hf.kp, bdd_all (hf.bindsN fun _ _ _ _ _ _ us hl => match us, hl with | [_, _, _], _ => rfl)⟩
theorem sc__law_after : FnScope ["_law_prog", "_law_state", "_law_act", "_law_places", "_law_counts", "_law_stamps", "_law_first", "_law_deed_here", "_law_last", "_law_at_here", "_law_stamp_here"] ["_law_prog", "_law_state", "_law_act"] (defScope s__law_after) := C8.fnScope_by (by decide +kernel)
theorem fn__law_after (T : TT K mg) : ∃ fd, FunD K "_law_after" "_law_after" (defArgs s__law_after) (defBody s__law_after) (defScope s__law_after) (d__law_after.dvs K) (d__law_after.kws K) (He.fAd K ("_law_after", none)) fd ∧ mg "_law_after" = some (.ref (He.fAd K ("_law_after", none))) ∧ FnD P w K mg base C8.CX0 3 (He.fAd K ("_law_after", none)) fd ["_law_prog", "_law_state", "_law_act"] F__law_after := by
  obtain ⟨fd, hf, hm⟩ := T.df d__law_after (List.mem_of_getElem? (i := 20) rfl)
  have SC := sc__law_after
  refine ⟨fd, hf, hm, fnd_of0 (k := 2) hf SC fun cdv B outer s H E hr hgd => ?_⟩
  exact (fss_cons (fs_asg (fe_var (pv 1)) (fg_tup rfl (fgs_cons (fg_name (pg_name (i := 3) SC.nd rfl (.inl rfl))) (fgs_cons (fg_name (pg_name (i := 4) SC.nd rfl (.inl rfl))) (fgs_cons (fg_name (pg_name (i := 5) SC.nd rfl (.inl rfl))) fgs_nil)))))
      (fss_cons (fs_asg (fe_call (cal__law_arrow_of T) hr (by omega) hgd (by rfl) C8.pass0 (fa_cons (fe_var (pv 0)) (fa_cons (fe_var (pv 2)) fa_nil))) (fg_tup rfl (fgs_cons (fg_name (pg_name (i := 6) SC.nd rfl (.inl rfl))) (fgs_cons (fg_name (pg_name (i := 7) SC.nd rfl (.inl rfl))) (fgs_cons (fg_name (pg_name (i := 8) SC.nd rfl (.inl rfl))) fgs_nil)))))
      (fss_cons (fs_set (i := 3) SC.nd rfl (.inl rfl) (fe_call (cal__law_put T) hr (by omega) hgd (by rfl) C8.pass0 (fa_cons (fe_var (pv 3)) (fa_cons (fe_call (cal__law_at T) hr (by omega) hgd (by rfl) C8.pass0 (fa_cons (fe_ix (ix_D (room_65 hr)) (fe_var (pv 0)) fe_int) (fa_cons (fe_ix (ix_D (room_65 hr)) (fe_var (pv 2)) fe_int) fa_nil))) (fa_cons (fe_var (pv 8)) fa_nil)))))
      (fss_cons (fs_if (ft_cmp (op_eqDD (room_64 hr)) (fe_ix (ix_D (room_65 hr)) (fe_var (pv 7)) fe_int) (fe_str (by decide +kernel))) (fss_cons (fs_set (i := 9) SC.nd rfl (.inl rfl) (fe_meth (meth_index (room_65 hr)) (fe_ix (ix_D (room_65 hr)) (fe_var (pv 0)) fe_int) (fa_cons (fe_ix (ix_D (room_65 hr)) (fe_var (pv 7)) fe_int) fa_nil)))
      (fss_one (fs_set (i := 4) SC.nd rfl (.inl rfl) (fe_call (cal__law_put T) hr (by omega) hgd (by rfl) C8.pass0 (fa_cons (fe_var (pv 4)) (fa_cons (fe_var (pv 9)) (fa_cons (fe_op op_addD (fe_ix (ix_D (room_65 hr)) (fe_var (pv 4)) (fe_var (pv 9))) (fe_ix (ix_D (room_65 hr)) (fe_var (pv 7)) fe_int)) fa_nil))))))) fss_nil)
      (fss_cons (fs_if (ft_cmp (op_inDD (room_65 hr)) (fe_ix (ix_D (room_65 hr)) (fe_var (pv 7)) fe_int) (fe_tup (fa_cons (fe_str (by decide +kernel)) (fa_cons (fe_str (by decide +kernel)) fa_nil)))) (fss_cons (fs_set (i := 10) SC.nd rfl (.inl rfl) (fe_if (ft_cmp (op_eqDD (room_64 hr)) (fe_ix (ix_D (room_65 hr)) (fe_var (pv 7)) fe_int) (fe_str (by decide +kernel))) (fe_call (cal__law_count T) hr (by omega) hgd (by rfl) C8.pass0 (fa_cons (fe_var (pv 0)) (fa_cons (fe_var (pv 1)) (fa_cons (fe_ix (ix_D (room_65 hr)) (fe_var (pv 7)) fe_int) fa_nil)))) (fe_call (cal__law_stamp T) hr (by omega) hgd (by rfl) C8.pass0 (fa_cons (fe_var (pv 0)) (fa_cons (fe_var (pv 1)) (fa_cons (fe_ix (ix_D (room_65 hr)) (fe_var (pv 7)) fe_int) fa_nil))))))
      (fss_one (fs_set (i := 5) SC.nd rfl (.inl rfl) (fe_call (cal__law_put T) hr (by omega) hgd (by rfl) C8.pass0 (fa_cons (fe_var (pv 5)) (fa_cons (fe_call (cal__law_at T) hr (by omega) hgd (by rfl) C8.pass0 (fa_cons (fe_ix (ix_D (room_65 hr)) (fe_var (pv 0)) fe_int) (fa_cons (fe_ix (ix_D (room_65 hr)) (fe_var (pv 7)) fe_int) fa_nil))) (fa_cons (fe_var (pv 10)) fa_nil))))))) fss_nil)
      (fss_one (fs_ret (fe_tup (fa_cons (fe_var (pv 3)) (fa_cons (fe_var (pv 4)) (fa_cons (fe_var (pv 5)) fa_nil)))))))))))
theorem cal__law_after (T : TT K mg) : CalD P w K mg base C8.CX0 3 "_law_after" 3 [] gAll F__law_after := by
  obtain ⟨fd, hf, hm, hF⟩ := fn__law_after (P := P) (w := w) (base := base) T
  exact ⟨_, fd, _, hF, hm, hf.kp, bdd_all (hf.bindsN fun _ _ _ _ _ _ us hl => match us, hl with | [_, _, _], _ => rfl)⟩
theorem sc__law_events : FnScope ["_law_prog", "_law_found", "_law_name", "_law_arrows", "_law_k"] ["_law_prog"] (defScope s__law_events) := C8.fnScope_by (by decide +kernel)
theorem fn__law_events (T : TT K mg) : ∃ fd, FunD K "_law_events" "_law_events" (defArgs s__law_events) (defBody s__law_events) (defScope s__law_events) (d__law_events.dvs K) (d__law_events.kws K) (He.fAd K ("_law_events", none)) fd ∧ mg "_law_events" = some (.ref (He.fAd K ("_law_events", none))) ∧ FnD P w K mg base C8.CX0 1 (He.fAd K ("_law_events", none)) fd ["_law_prog"] F__law_events := by
  obtain ⟨fd, hf, hm⟩ := T.df d__law_events (List.mem_of_getElem? (i := 21) rfl)
  have SC := sc__law_events
  refine ⟨fd, hf, hm, fnd_of0 (k := 0) hf SC fun cdv B outer s H E hr hgd => ?_⟩
  exact (fss_cons (fs_set (i := 1) SC.nd rfl (.inl rfl) (fe_lst fa_nil))
      (fss_cons (fs_for PassesOwn.never rfl (fi_seq (fe_ix (ix_D (room_65 hr)) (fe_var (pv 0)) fe_int)) (fgw_n (fg_tup rfl (fgs_cons (fg_name (pg_name (i := 2) SC.nd rfl (.inr rfl))) (fgs_cons (fg_name (pg_name (i := 3) SC.nd rfl (.inl rfl))) fgs_nil)))) (fss_one (fs_set (i := 1) SC.nd rfl (.inl rfl) (fe_op op_addD (fe_var (pv 1)) (fe_comp (own := [("_law_k", 4)]) rfl SC.nd (fi_range1 (by rfl) (T.fr "range" (List.mem_of_getElem? (i := 6) rfl)) (fa_cons (fe_callB call_lenD (by rfl) (T.fr "len" (List.mem_of_getElem? (i := 5) rfl)) (by decide +kernel) (fa_cons (fe_var (pv 3)) fa_nil)) fa_nil)) (blkOk_by (by rfl)) (fun _ _ _ _ _ => (fgc_name (pg_name (i := 4) SC.nd rfl (by first | exact .inl rfl | exact .inr rfl)))) (fun _ _ _ _ _ => fts_nil) (fun _ _ _ _ _ => (fe_tup (fa_cons (fe_var (pv 2)) (fa_cons (fe_var (pv 4)) fa_nil)))))))))
      (fss_one (fs_ret (fe_var (pv 1))))))
theorem cal__law_events (T : TT K mg) : CalD P w K mg base C8.CX0 1 "_law_events" 1 [] gAll F__law_events := by
  obtain ⟨fd, hf, hm, hF⟩ := fn__law_events (P := P) (w := w) (base := base) T
  exact ⟨_, fd, _, hF, hm, hf.kp, bdd_all (hf.bindsN fun _ _ _ _ _ _ us hl => match us, hl with | [_], _ => rfl)⟩
theorem sc__law_stands : FnScope ["_law_prog", "_law_state", "_law_act"] ["_law_prog", "_law_state", "_law_act"] (defScope s__law_stands) := C8.fnScope_by (by decide +kernel)
theorem fn__law_stands (T : TT K mg) : ∃ fd, FunD K "_law_stands" "_law_stands" (defArgs s__law_stands) (defBody s__law_stands) (defScope s__law_stands) (d__law_stands.dvs K) (d__law_stands.kws K) (He.fAd K ("_law_stands", none)) fd ∧ mg "_law_stands" = some (.ref (He.fAd K ("_law_stands", none))) ∧ FnD P w K mg base C8.CX0 3 (He.fAd K ("_law_stands", none)) fd ["_law_prog", "_law_state", "_law_act"] F__law_stands := by
  obtain ⟨fd, hf, hm⟩ := T.df d__law_stands (List.mem_of_getElem? (i := 22) rfl)
  have SC := sc__law_stands
  refine ⟨fd, hf, hm, fnd_of0 (k := 2) hf SC fun cdv B outer s H E hr hgd => ?_⟩
  exact (fss_one (fs_ret (fe_cmp (op_eqDD (room_64 hr)) (fe_ix (ix_D (room_65 hr)) (fe_ix (ix_D (room_65 hr)) (fe_var (pv 1)) fe_int) (fe_call (cal__law_at T) hr (by omega) hgd (by rfl) C8.pass0 (fa_cons (fe_ix (ix_D (room_65 hr)) (fe_var (pv 0)) fe_int) (fa_cons (fe_ix (ix_D (room_65 hr)) (fe_var (pv 2)) fe_int) fa_nil)))) (fe_ix (ix_D (room_65 hr)) (fe_call (cal__law_arrow_of T) hr (by omega) hgd (by rfl) C8.pass0 (fa_cons (fe_var (pv 0)) (fa_cons (fe_var (pv 2)) fa_nil))) fe_int))))
theorem cal__law_stands (T : TT K mg) : CalD P w K mg base C8.CX0 3 "_law_stands" 3 [] gAll F__law_stands := by
  obtain ⟨fd, hf, hm, hF⟩ := fn__law_stands (P := P) (w := w) (base := base) T
  exact ⟨_, fd, _, hF, hm, hf.kp, bdd_all (hf.bindsN fun _ _ _ _ _ _ us hl => match us, hl with | [_, _, _], _ => rfl)⟩
theorem sc__law_gap : FnScope ["_law_prog", "_law_state", "_law_deed_here"] ["_law_prog", "_law_state", "_law_deed_here"] (defScope s__law_gap) := C8.fnScope_by (by decide +kernel)
theorem fn__law_gap (T : TT K mg) : ∃ fd, FunD K "_law_gap" "_law_gap" (defArgs s__law_gap) (defBody s__law_gap) (defScope s__law_gap) (d__law_gap.dvs K) (d__law_gap.kws K) (He.fAd K ("_law_gap", none)) fd ∧ mg "_law_gap" = some (.ref (He.fAd K ("_law_gap", none))) ∧ FnD P w K mg base C8.CX0 3 (He.fAd K ("_law_gap", none)) fd ["_law_prog", "_law_state", "_law_deed_here"] F__law_gap := by
  obtain ⟨fd, hf, hm⟩ := T.df d__law_gap (List.mem_of_getElem? (i := 23) rfl)
  have SC := sc__law_gap
  refine ⟨fd, hf, hm, fnd_of0 (k := 2) hf SC fun cdv B outer s H E hr hgd => ?_⟩
  exact (fss_cons (fs_if (ft_cmp (op_inDD (room_65 hr)) (fe_ix (ix_D (room_65 hr)) (fe_var (pv 2)) fe_int) (fe_tup (fa_cons (fe_str (by decide +kernel)) (fa_cons (fe_str (by decide +kernel)) fa_nil)))) (fss_one (fs_ret (fe_op op_subD (fe_call (cal__law_count T) hr (by omega) hgd (by rfl) C8.pass0 (fa_cons (fe_var (pv 0)) (fa_cons (fe_var (pv 1)) (fa_cons (fe_ix (ix_D (room_65 hr)) (fe_var (pv 2)) fe_int) fa_nil)))) (fe_call (cal__law_stamp T) hr (by omega) hgd (by rfl) C8.pass0 (fa_cons (fe_var (pv 0)) (fa_cons (fe_var (pv 1)) (fa_cons (fe_ix (ix_D (room_65 hr)) (fe_var (pv 2)) fe_int) fa_nil))))))) fss_nil)
      (fss_one (fs_ret (fe_op op_subD (fe_call (cal__law_stamp T) hr (by omega) hgd (by rfl) C8.pass0 (fa_cons (fe_var (pv 0)) (fa_cons (fe_var (pv 1)) (fa_cons (fe_ix (ix_D (room_65 hr)) (fe_var (pv 2)) fe_int) fa_nil)))) (fe_call (cal__law_stamp T) hr (by omega) hgd (by rfl) C8.pass0 (fa_cons (fe_var (pv 0)) (fa_cons (fe_var (pv 1)) (fa_cons (fe_ix (ix_D (room_65 hr)) (fe_var (pv 2)) fe_int) fa_nil))))))))
theorem cal__law_gap (T : TT K mg) : CalD P w K mg base C8.CX0 3 "_law_gap" 3 [] gAll F__law_gap := by
  obtain ⟨fd, hf, hm, hF⟩ := fn__law_gap (P := P) (w := w) (base := base) T
  exact ⟨_, fd, _, hF, hm, hf.kp, bdd_all (hf.bindsN fun _ _ _ _ _ _ us hl => match us, hl with | [_, _, _], _ => rfl)⟩
theorem sc__law_is_look : FnScope ["_law_deed_here"] ["_law_deed_here"] (defScope s__law_is_look) := C8.fnScope_by (by decide +kernel)
theorem fn__law_is_look (T : TT K mg) : ∃ fd, FunD K "_law_is_look" "_law_is_look" (defArgs s__law_is_look) (defBody s__law_is_look) (defScope s__law_is_look) (d__law_is_look.dvs K) (d__law_is_look.kws K) (He.fAd K ("_law_is_look", none)) fd ∧ mg "_law_is_look" = some (.ref (He.fAd K ("_law_is_look", none))) ∧ FnD P w K mg base C8.CX0 1 (He.fAd K ("_law_is_look", none)) fd ["_law_deed_here"] F__law_is_look := by
  obtain ⟨fd, hf, hm⟩ := T.df d__law_is_look (List.mem_of_getElem? (i := 24) rfl)
  have SC := sc__law_is_look
  refine ⟨fd, hf, hm, fnd_of0 (k := 0) hf SC fun cdv B outer s H E hr hgd => ?_⟩
  exact (fss_one (fs_ret (fe_cmp (op_inDD (room_65 hr)) (fe_ix (ix_D (room_65 hr)) (fe_var (pv 0)) fe_int) (fe_tup (fa_cons (fe_str (by decide +kernel)) (fa_cons (fe_str (by decide +kernel)) (fa_cons (fe_str (by decide +kernel)) (fa_cons (fe_str (by decide +kernel)) (fa_cons (fe_str (by decide +kernel)) (fa_cons (fe_str (by decide +kernel)) fa_nil))))))))))
theorem cal__law_is_look (T : TT K mg) : CalD P w K mg base C8.CX0 1 "_law_is_look" 1 [] gAll F__law_is_look := by
  obtain ⟨fd, hf, hm, hF⟩ := fn__law_is_look (P := P) (w := w) (base := base) T
  exact ⟨_, fd, _, hF, hm, hf.kp, bdd_all (hf.bindsN fun _ _ _ _ _ _ us hl => match us, hl with | [_], _ => rfl)⟩
theorem sc__law_is_true : FnScope ["_law_prog", "_law_state", "_law_deed_here", "_law_gap_here"] ["_law_prog", "_law_state", "_law_deed_here"] (defScope s__law_is_true) := C8.fnScope_by (by decide +kernel)
theorem fn__law_is_true (T : TT K mg) : ∃ fd, FunD K "_law_is_true" "_law_is_true" (defArgs s__law_is_true) (defBody s__law_is_true) (defScope s__law_is_true) (d__law_is_true.dvs K) (d__law_is_true.kws K) (He.fAd K ("_law_is_true", none)) fd ∧ mg "_law_is_true" = some (.ref (He.fAd K ("_law_is_true", none))) ∧ FnD P w K mg base C8.CX0 4 (He.fAd K ("_law_is_true", none)) fd ["_law_prog", "_law_state", "_law_deed_here"] F__law_is_true := by
  obtain ⟨fd, hf, hm⟩ := T.df d__law_is_true (List.mem_of_getElem? (i := 25) rfl)
  have SC := sc__law_is_true
  refine ⟨fd, hf, hm, fnd_of0 (k := 3) hf SC fun cdv B outer s H E hr hgd => ?_⟩
  exact (fss_cons (fs_if (ft_not (ft_val (fe_call (cal__law_is_look T) hr (by omega) hgd (by rfl) C8.pass0 (fa_cons (fe_var (pv 2)) fa_nil)))) (fss_one (fs_ret fe_bl)) fss_nil)
      (fss_cons (fs_set (i := 3) SC.nd rfl (.inl rfl) (fe_call (cal__law_gap T) hr (by omega) hgd (by rfl) C8.pass0 (fa_cons (fe_var (pv 0)) (fa_cons (fe_var (pv 1)) (fa_cons (fe_var (pv 2)) fa_nil)))))
      (fss_cons (fs_if (ft_cmp (op_inDD (room_65 hr)) (fe_ix (ix_D (room_65 hr)) (fe_var (pv 2)) fe_int) (fe_tup (fa_cons (fe_str (by decide +kernel)) (fa_cons (fe_str (by decide +kernel)) fa_nil)))) (fss_one (fs_ret (fe_cmp (op_eqDD (room_64 hr)) (fe_cmp op_gtD (fe_var (pv 3)) fe_int) (fe_cmp (op_eqDD (room_64 hr)) (fe_ix (ix_D (room_65 hr)) (fe_var (pv 2)) fe_int) (fe_str (by decide +kernel)))))) fss_nil)
      (fss_one (fs_ret (fe_cmp (op_eqDD (room_64 hr)) (fe_cmp (op_eqDD (room_64 hr)) (fe_var (pv 3)) fe_int) (fe_cmp (op_inDD (room_65 hr)) (fe_ix (ix_D (room_65 hr)) (fe_var (pv 2)) fe_int) (fe_tup (fa_cons (fe_str (by decide +kernel)) (fa_cons (fe_str (by decide +kernel)) fa_nil))))))))))
theorem cal__law_is_true (T : TT K mg) : CalD P w K mg base C8.CX0 4 "_law_is_true" 3 [] gAll F__law_is_true := by
  obtain ⟨fd, hf, hm, hF⟩ := fn__law_is_true (P := P) (w := w) (base := base) T
  exact ⟨_, fd, _, hF, hm, hf.kp, bdd_all (hf.bindsN fun _ _ _ _ _ _ us hl => match us, hl with | [_, _, _], _ => rfl)⟩
theorem sc__law_open : FnScope ["_law_prog", "_law_state", "_law_found", "_law_act"] ["_law_prog", "_law_state"] (defScope s__law_open) := C8.fnScope_by (by decide +kernel)
theorem fn__law_open (T : TT K mg) : ∃ fd, FunD K "_law_open" "_law_open" (defArgs s__law_open) (defBody s__law_open) (defScope s__law_open) (d__law_open.dvs K) (d__law_open.kws K) (He.fAd K ("_law_open", none)) fd ∧ mg "_law_open" = some (.ref (He.fAd K ("_law_open", none))) ∧ FnD P w K mg base C8.CX0 5 (He.fAd K ("_law_open", none)) fd ["_law_prog", "_law_state"] F__law_open := by
  obtain ⟨fd, hf, hm⟩ := T.df d__law_open (List.mem_of_getElem? (i := 26) rfl)
  have SC := sc__law_open
  refine ⟨fd, hf, hm, fnd_of0 (k := 4) hf SC fun cdv B outer s H E hr hgd => ?_⟩
  exact (fss_cons (fs_setComp (i := 2) (own := [("_law_act", 3)]) rfl SC.nd rfl rfl (by rfl) (fi_seq (fe_call (cal__law_events T) hr (by omega) hgd (by rfl) C8.pass0 (fa_cons (fe_var (pv 0)) fa_nil))) (blkOk_by (by rfl)) (fun _ _ _ _ _ => (fgc_name (pg_name (i := 3) SC.nd rfl (by first | exact .inl rfl | exact .inr rfl)))) (fun _ _ _ _ _ => (fts_one (ft_val (fe_call (cal__law_stands T) hr (by omega) hgd (by rfl) C8.pass0 (fa_cons (fe_var (pv 0)) (fa_cons (fe_var (pv 1)) (fa_cons (fe_var (pv 3)) fa_nil))))))) (fun _ _ _ _ _ => (fe_var (pv 3))))
      (fss_one (fs_ret (fe_comp (own := [("_law_act", 3)]) rfl SC.nd (fi_seq (fe_var (pv 2))) (blkOk_by (by rfl)) (fun _ _ _ _ _ => (fgc_name (pg_name (i := 3) SC.nd rfl (by first | exact .inl rfl | exact .inr rfl)))) (fun _ _ _ _ _ => (fts_one (ft_val (fe_call (cal__law_is_true T) hr (by omega) hgd (by rfl) C8.pass0 (fa_cons (fe_var (pv 0)) (fa_cons (fe_var (pv 1)) (fa_cons (fe_ix (ix_D (room_65 hr)) (fe_call (cal__law_arrow_of T) hr (by omega) hgd (by rfl) C8.pass0 (fa_cons (fe_var (pv 0)) (fa_cons (fe_var (pv 3)) fa_nil))) fe_int) fa_nil))))))) (fun _ _ _ _ _ => (fe_var (pv 3)))))))
theorem cal__law_open (T : TT K mg) : CalD P w K mg base C8.CX0 5 "_law_open" 2 [] gAll F__law_open := by
  obtain ⟨fd, hf, hm, hF⟩ := fn__law_open (P := P) (w := w) (base := base) T
  exact ⟨_, fd, _, hF, hm, hf.kp, bdd_all (hf.bindsN fun _ _ _ _ _ _ us hl => match us, hl with | [_, _], _ => rfl)⟩
theorem sc__law_runs : FnScope ["_law_prog", "_law_found", "_law_newest", "_law_lap", "_law_longer", "_law_did", "_law_state", "_law_act"] ["_law_prog"] (defScope s__law_runs) := C8.fnScope_by (by decide +kernel)
theorem fn__law_runs (T : TT K mg) : ∃ fd, FunD K "_law_runs" "_law_runs" (defArgs s__law_runs) (defBody s__law_runs) (defScope s__law_runs) (d__law_runs.dvs K) (d__law_runs.kws K) (He.fAd K ("_law_runs", none)) fd ∧ mg "_law_runs" = some (.ref (He.fAd K ("_law_runs", none))) ∧ FnD P w K mg base C8.CX0 6 (He.fAd K ("_law_runs", none)) fd ["_law_prog"] F__law_runs := by
  obtain ⟨fd, hf, hm⟩ := T.df d__law_runs (List.mem_of_getElem? (i := 27) rfl)
  have SC := sc__law_runs
  refine ⟨fd, hf, hm, fnd_of0 (k := 5) hf SC fun cdv B outer s H E hr hgd => ?_⟩
  exact (fss_cons (fs_set (i := 1) SC.nd rfl (.inl rfl) (fe_lst (fa_cons (fe_tup (fa_cons (fe_tup fa_nil) (fa_cons (fe_call (cal__law_begun T) hr (by omega) hgd (by rfl) C8.pass0 (fa_cons (fe_var (pv 0)) fa_nil)) fa_nil))) fa_nil)))
      (fss_cons (fs_set (i := 2) SC.nd rfl (.inl rfl) (fe_var (pv 1)))
      (fss_cons (fs_for PassesOwn.never rfl (fi_range1 (by rfl) (T.fr "range" (List.mem_of_getElem? (i := 6) rfl)) (fa_cons fe_int fa_nil)) (fgw_n (fg_name (pg_name (i := 3) SC.nd rfl (.inl rfl)))) (fss_cons (fs_set (i := 4) SC.nd rfl (.inl rfl) (fe_lst fa_nil))
      (fss_cons (fs_for PassesOwn.never rfl (fi_seq (fe_var (pv 2))) (fgw_n (fg_tup rfl (fgs_cons (fg_name (pg_name (i := 5) SC.nd rfl (.inr rfl))) (fgs_cons (fg_name (pg_name (i := 6) SC.nd rfl (.inr rfl))) fgs_nil)))) (fss_one (fs_set (i := 4) SC.nd rfl (.inl rfl) (fe_op op_addD (fe_var (pv 4)) (fe_comp (own := [("_law_act", 7)]) rfl SC.nd (fi_seq (fe_call (cal__law_open T) hr (by omega) hgd (by rfl) C8.pass0 (fa_cons (fe_var (pv 0)) (fa_cons (fe_var (pv 6)) fa_nil)))) (blkOk_by (by rfl)) (fun _ _ _ _ _ => (fgc_name (pg_name (i := 7) SC.nd rfl (by first | exact .inl rfl | exact .inr rfl)))) (fun _ _ _ _ _ => fts_nil) (fun _ _ _ _ _ => (fe_tup (fa_cons (fe_op op_addD (fe_var (pv 5)) (fe_tup (fa_cons (fe_var (pv 7)) fa_nil))) (fa_cons (fe_call (cal__law_after T) hr (by omega) hgd (by rfl) C8.pass0 (fa_cons (fe_var (pv 0)) (fa_cons (fe_var (pv 6)) (fa_cons (fe_var (pv 7)) fa_nil)))) fa_nil)))))))))
      (fss_cons (fs_if (ft_cmp op_gtD (fe_op op_addD (fe_callB call_lenD (by rfl) (T.fr "len" (List.mem_of_getElem? (i := 5) rfl)) (by decide +kernel) (fa_cons (fe_var (pv 1)) fa_nil)) (fe_callB call_lenD (by rfl) (T.fr "len" (List.mem_of_getElem? (i := 5) rfl)) (by decide +kernel) (fa_cons (fe_var (pv 4)) fa_nil))) fe_int) (fss_one (fs_ret (fe_var (pv 1)))) fss_nil)
      (fss_one (fs_par (i := 1) (j := 2) rfl SC.nd rfl rfl (by decide) rfl rfl (fa_cons (fe_op op_addD (fe_var (pv 1)) (fe_var (pv 4))) (fa_cons (fe_var (pv 4)) fa_nil)) (by rfl)))))))
      (fss_one (fs_ret (fe_var (pv 1)))))))
theorem cal__law_runs (T : TT K mg) : CalD P w K mg base C8.CX0 6 "_law_runs" 1 [] gAll F__law_runs := by
  obtain ⟨fd, hf, hm, hF⟩ := fn__law_runs (P := P) (w := w) (base := base) T
  exact ⟨_, fd, _, hF, hm, hf.kp, bdd_all (hf.bindsN fun _ _ _ _ _ _ us hl => match us, hl with | [_], _ => rfl)⟩
theorem sc_all_events : FnScope ["program", "party", "arrows", "k"] ["program"] (defScope s_all_events) := C8.fnScope_by (by decide +kernel)
theorem fn_all_events (T : TT K mg) : ∃ fd, FunD K "all_events" "all_events" (defArgs s_all_events) (defBody s_all_events) (defScope s_all_events) (d_all_events.dvs K) (d_all_events.kws K) (He.fAd K ("all_events", none)) fd ∧ mg "all_events" = some (.ref (He.fAd K ("all_events", none))) ∧ FnD P w K mg base C8.CX0 1 (He.fAd K ("all_events", none)) fd ["program"] F_all_events := by
  obtain ⟨fd, hf, hm⟩ := T.df d_all_events (List.mem_of_getElem? (i := 28) rfl)
  have SC := sc_all_events
  refine ⟨fd, hf, hm, fnd_of0 (k := 0) hf SC fun cdv B outer s H E hr hgd => ?_⟩
  exact (fss_one (fs_ret (fe_comp2N (own := [("party", 1), ("arrows", 2), ("k", 3)]) (vs1 := [3]) rfl SC.nd (fi_seq (fe_ix (ix_D (room_65 hr)) (fe_var (pv 0)) fe_int)) (blkOk_by (by rfl)) (by decide) (fun _ _ _ _ _ => (wn_wu (fgc_u rfl (fgcs_cons (fgc_name (pg_name (i := 1) SC.nd rfl (by first | exact .inl rfl | exact .inr rfl))) (fgcs_cons (fgc_name (pg_name (i := 2) SC.nd rfl (by first | exact .inl rfl | exact .inr rfl))) fgcs_nil))))) (fun _ _ _ _ _ => fts_nil) (fun _ _ _ _ _ => (fi_range1 (by rfl) (T.fr "range" (List.mem_of_getElem? (i := 6) rfl)) (fa_cons (fe_callB call_lenD (by rfl) (T.fr "len" (List.mem_of_getElem? (i := 5) rfl)) (by decide +kernel) (fa_cons (fe_var (pv 2)) fa_nil)) fa_nil))) (fun _ _ _ _ _ => (fgc_name (pg_name (i := 3) SC.nd rfl (by first | exact .inl rfl | exact .inr rfl)))) (fun _ _ _ _ _ => fts_nil) (fun _ _ _ _ _ => (fe_tup (fa_cons (fe_var (pv 1)) (fa_cons (fe_var (pv 3)) fa_nil)))))))
theorem cal_all_events (T : TT K mg) : CalD P w K mg base C8.CX0 1 "all_events" 1 [] gAll F_all_events := by
  obtain ⟨fd, hf, hm, hF⟩ := fn_all_events (P := P) (w := w) (base := base) T
  exact ⟨_, fd, _, hF, hm, hf.kp, bdd_all (hf.bindsN fun _ _ _ _ _ _ us hl => match us, hl with | [_], _ => rfl)⟩
theorem sc_party_names : FnScope ["program", "party", "arrows"] ["program"] (defScope s_party_names) := C8.fnScope_by (by decide +kernel)
theorem fn_party_names (T : TT K mg) : ∃ fd, FunD K "party_names" "party_names" (defArgs s_party_names) (defBody s_party_names) (defScope s_party_names) (d_party_names.dvs K) (d_party_names.kws K) (He.fAd K ("party_names", none)) fd ∧ mg "party_names" = some (.ref (He.fAd K ("party_names", none))) ∧ FnD P w K mg base C8.CX0 1 (He.fAd K ("party_names", none)) fd ["program"] F_party_names := by
  obtain ⟨fd, hf, hm⟩ := T.df d_party_names (List.mem_of_getElem? (i := 29) rfl)
  have SC := sc_party_names
  refine ⟨fd, hf, hm, fnd_of0 (k := 0) hf SC fun cdv B outer s H E hr hgd => ?_⟩
  exact (fss_one (fs_ret (fe_comp (own := [("party", 1), ("arrows", 2)]) rfl SC.nd (fi_seq (fe_ix (ix_D (room_65 hr)) (fe_var (pv 0)) fe_int)) (blkOk_by (by rfl)) (fun _ _ _ _ _ => (wn_wu (fgc_u rfl (fgcs_cons (fgc_name (pg_name (i := 1) SC.nd rfl (by first | exact .inl rfl | exact .inr rfl))) (fgcs_cons (fgc_name (pg_name (i := 2) SC.nd rfl (by first | exact .inl rfl | exact .inr rfl))) fgcs_nil))))) (fun _ _ _ _ _ => fts_nil) (fun _ _ _ _ _ => (fe_var (pv 1))))))
theorem cal_party_names (T : TT K mg) : CalD P w K mg base C8.CX0 1 "party_names" 1 [] gAll F_party_names := by
  obtain ⟨fd, hf, hm, hF⟩ := fn_party_names (P := P) (w := w) (base := base) T
  exact ⟨_, fd, _, hF, hm, hf.kp, bdd_all (hf.bindsN fun _ _ _ _ _ _ us hl => match us, hl with | [_], _ => rfl)⟩
theorem sc_party_spot : FnScope ["program", "party"] ["program", "party"] (defScope s_party_spot) := C8.fnScope_by (by decide +kernel)
theorem fn_party_spot (T : TT K mg) : ∃ fd, FunD K "party_spot" "party_spot" (defArgs s_party_spot) (defBody s_party_spot) (defScope s_party_spot) (d_party_spot.dvs K) (d_party_spot.kws K) (He.fAd K ("party_spot", none)) fd ∧ mg "party_spot" = some (.ref (He.fAd K ("party_spot", none))) ∧ FnD P w K mg base C8.CX0 2 (He.fAd K ("party_spot", none)) fd ["program", "party"] F_party_spot := by
  obtain ⟨fd, hf, hm⟩ := T.df d_party_spot (List.mem_of_getElem? (i := 30) rfl)
  have SC := sc_party_spot
  refine ⟨fd, hf, hm, fnd_of0 (k := 1) hf SC fun cdv B outer s H E hr hgd => ?_⟩
  exact (fss_one (fs_ret (fe_meth (meth_index (room_65 hr)) (fe_call (cal_party_names T) hr (by omega) hgd (by rfl) C8.pass0 (fa_cons (fe_var (pv 0)) fa_nil)) (fa_cons (fe_var (pv 1)) fa_nil))))
theorem cal_party_spot (T : TT K mg) : CalD P w K mg base C8.CX0 2 "party_spot" 2 [] gAll F_party_spot := by
  obtain ⟨fd, hf, hm, hF⟩ := fn_party_spot (P := P) (w := w) (base := base) T
  exact ⟨_, fd, _, hF, hm, hf.kp, bdd_all (hf.bindsN fun _ _ _ _ _ _ us hl => match us, hl with | [_, _], _ => rfl)⟩
theorem sc_arrow_at : FnScope ["program", "event"] ["program", "event"] (defScope s_arrow_at) := C8.fnScope_by (by decide +kernel)
theorem fn_arrow_at (T : TT K mg) : ∃ fd, FunD K "arrow_at" "arrow_at" (defArgs s_arrow_at) (defBody s_arrow_at) (defScope s_arrow_at) (d_arrow_at.dvs K) (d_arrow_at.kws K) (He.fAd K ("arrow_at", none)) fd ∧ mg "arrow_at" = some (.ref (He.fAd K ("arrow_at", none))) ∧ FnD P w K mg base C8.CX0 3 (He.fAd K ("arrow_at", none)) fd ["program", "event"] F_arrow_at := by
  obtain ⟨fd, hf, hm⟩ := T.df d_arrow_at (List.mem_of_getElem? (i := 31) rfl)
  have SC := sc_arrow_at
  refine ⟨fd, hf, hm, fnd_of0 (k := 2) hf SC fun cdv B outer s H E hr hgd => ?_⟩
  exact (fss_one (fs_ret (fe_ix (ix_D (room_65 hr)) (fe_ix (ix_D (room_65 hr)) (fe_ix (ix_D (room_65 hr)) (fe_ix (ix_D (room_65 hr)) (fe_var (pv 0)) fe_int) (fe_call (cal_party_spot T) hr (by omega) hgd (by rfl) C8.pass0 (fa_cons (fe_var (pv 0)) (fa_cons (fe_ix (ix_D (room_65 hr)) (fe_var (pv 1)) fe_int) fa_nil)))) fe_int) (fe_ix (ix_D (room_65 hr)) (fe_var (pv 1)) fe_int))))
theorem cal_arrow_at (T : TT K mg) : CalD P w K mg base C8.CX0 3 "arrow_at" 2 [] gAll F_arrow_at := by
  obtain ⟨fd, hf, hm, hF⟩ := fn_arrow_at (P := P) (w := w) (base := base) T
  exact ⟨_, fd, _, hF, hm, hf.kp, bdd_all (hf.bindsN fun _ _ _ _ _ _ us hl => match us, hl with | [_, _], _ => rfl)⟩
theorem sc_stands_at : FnScope ["program", "state", "event"] ["program", "state", "event"] (defScope s_stands_at) := C8.fnScope_by (by decide +kernel)
theorem fn_stands_at (T : TT K mg) : ∃ fd, FunD K "stands_at" "stands_at" (defArgs s_stands_at) (defBody s_stands_at) (defScope s_stands_at) (d_stands_at.dvs K) (d_stands_at.kws K) (He.fAd K ("stands_at", none)) fd ∧ mg "stands_at" = some (.ref (He.fAd K ("stands_at", none))) ∧ FnD P w K mg base C8.CX0 4 (He.fAd K ("stands_at", none)) fd ["program", "state", "event"] F_stands_at := by
  obtain ⟨fd, hf, hm⟩ := T.df d_stands_at (List.mem_of_getElem? (i := 32) rfl)
  have SC := sc_stands_at
  refine ⟨fd, hf, hm, fnd_of0 (k := 3) hf SC fun cdv B outer s H E hr hgd => ?_⟩
  exact (fss_one (fs_ret (fe_cmp (op_eqDD (room_64 hr)) (fe_ix (ix_D (room_65 hr)) (fe_ix (ix_D (room_65 hr)) (fe_var (pv 1)) fe_int) (fe_call (cal_party_spot T) hr (by omega) hgd (by rfl) C8.pass0 (fa_cons (fe_var (pv 0)) (fa_cons (fe_ix (ix_D (room_65 hr)) (fe_var (pv 2)) fe_int) fa_nil)))) (fe_ix (ix_D (room_65 hr)) (fe_call (cal_arrow_at T) hr (by omega) hgd (by rfl) C8.pass0 (fa_cons (fe_var (pv 0)) (fa_cons (fe_var (pv 2)) fa_nil))) fe_int))))
theorem cal_stands_at (T : TT K mg) : CalD P w K mg base C8.CX0 4 "stands_at" 3 [] gAll F_stands_at := by
  obtain ⟨fd, hf, hm, hF⟩ := fn_stands_at (P := P) (w := w) (base := base) T
  exact ⟨_, fd, _, hF, hm, hf.kp, bdd_all (hf.bindsN fun _ _ _ _ _ _ us hl => match us, hl with | [_, _, _], _ => rfl)⟩
theorem sc_is_true : FnScope ["word", "gap"] ["word", "gap"] (defScope s_is_true) := C8.fnScope_by (by decide +kernel)
theorem fn_is_true (T : TT K mg) : ∃ fd, FunD K "is_true" "is_true" (defArgs s_is_true) (defBody s_is_true) (defScope s_is_true) (d_is_true.dvs K) (d_is_true.kws K) (He.fAd K ("is_true", none)) fd ∧ mg "is_true" = some (.ref (He.fAd K ("is_true", none))) ∧ FnD P w K mg base C8.CX0 1 (He.fAd K ("is_true", none)) fd ["word", "gap"] F_is_true := by
  obtain ⟨fd, hf, hm⟩ := T.df d_is_true (List.mem_of_getElem? (i := 33) rfl)
  have SC := sc_is_true
  refine ⟨fd, hf, hm, fnd_of0 (k := 0) hf SC fun cdv B outer s H E hr hgd => ?_⟩
  exact (fss_cons (fs_if (ft_cmp (op_inDD (room_65 hr)) (fe_var (pv 0)) (fe_con (T.con ("ORDER_LOOKS", C_ORDER_LOOKS) (List.mem_of_getElem? (i := 5) rfl)) (by rfl))) (fss_one (fs_ret (fe_cmp (op_eqDD (room_64 hr)) (fe_cmp op_gtD (fe_var (pv 1)) fe_int) (fe_cmp (op_eqDD (room_64 hr)) (fe_var (pv 0)) (fe_str (by decide +kernel)))))) fss_nil)
      (fss_one (fs_ret (fe_cmp (op_eqDD (room_64 hr)) (fe_cmp (op_eqDD (room_64 hr)) (fe_var (pv 1)) fe_int) (fe_cmp (op_inDD (room_65 hr)) (fe_var (pv 0)) (fe_con (T.con ("EQUAL_WORDS", C_EQUAL_WORDS) (List.mem_of_getElem? (i := 1) rfl)) (by rfl)))))))
theorem cal_is_true (T : TT K mg) : CalD P w K mg base C8.CX0 1 "is_true" 2 [] gAll F_is_true := by
  obtain ⟨fd, hf, hm, hF⟩ := fn_is_true (P := P) (w := w) (base := base) T
  exact ⟨_, fd, _, hF, hm, hf.kp, bdd_all (hf.bindsN fun _ _ _ _ _ _ us hl => match us, hl with | [_, _], _ => rfl)⟩
theorem sc_slot_spot : FnScope ["program", "slot", "one", "counter"] ["program", "slot"] (defScope s_slot_spot) := C8.fnScope_by (by decide +kernel)
theorem fn_slot_spot (T : TT K mg) : ∃ fd, FunD K "slot_spot" "slot_spot" (defArgs s_slot_spot) (defBody s_slot_spot) (defScope s_slot_spot) (d_slot_spot.dvs K) (d_slot_spot.kws K) (He.fAd K ("slot_spot", none)) fd ∧ mg "slot_spot" = some (.ref (He.fAd K ("slot_spot", none))) ∧ FnD P w K mg base C8.CX0 1 (He.fAd K ("slot_spot", none)) fd ["program", "slot"] F_slot_spot := by
  obtain ⟨fd, hf, hm⟩ := T.df d_slot_spot (List.mem_of_getElem? (i := 34) rfl)
  have SC := sc_slot_spot
  refine ⟨fd, hf, hm, fnd_of0 (k := 0) hf SC fun cdv B outer s H E hr hgd => ?_⟩
  exact (fss_one (fs_ret (fe_meth (meth_index (room_65 hr)) (fe_comp (own := [("one", 2), ("counter", 3)]) rfl SC.nd (fi_seq (fe_ix (ix_D (room_65 hr)) (fe_var (pv 0)) fe_int)) (blkOk_by (by rfl)) (fun _ _ _ _ _ => (wn_wu (fgc_u rfl (fgcs_cons (fgc_name (pg_name (i := 2) SC.nd rfl (by first | exact .inl rfl | exact .inr rfl))) (fgcs_cons (fgc_name (pg_name (i := 3) SC.nd rfl (by first | exact .inl rfl | exact .inr rfl))) fgcs_nil))))) (fun _ _ _ _ _ => fts_nil) (fun _ _ _ _ _ => (fe_var (pv 2)))) (fa_cons (fe_var (pv 1)) fa_nil))))
theorem cal_slot_spot (T : TT K mg) : CalD P w K mg base C8.CX0 1 "slot_spot" 2 [] gAll F_slot_spot := by
  obtain ⟨fd, hf, hm, hF⟩ := fn_slot_spot (P := P) (w := w) (base := base) T
  exact ⟨_, fd, _, hF, hm, hf.kp, bdd_all (hf.bindsN fun _ _ _ _ _ _ us hl => match us, hl with | [_, _], _ => rfl)⟩
theorem sc_owner_spot : FnScope ["program", "slot"] ["program", "slot"] (defScope s_owner_spot) := C8.fnScope_by (by decide +kernel)
theorem fn_owner_spot (T : TT K mg) : ∃ fd, FunD K "owner_spot" "owner_spot" (defArgs s_owner_spot) (defBody s_owner_spot) (defScope s_owner_spot) (d_owner_spot.dvs K) (d_owner_spot.kws K) (He.fAd K ("owner_spot", none)) fd ∧ mg "owner_spot" = some (.ref (He.fAd K ("owner_spot", none))) ∧ FnD P w K mg base C8.CX0 2 (He.fAd K ("owner_spot", none)) fd ["program", "slot"] F_owner_spot := by
  obtain ⟨fd, hf, hm⟩ := T.df d_owner_spot (List.mem_of_getElem? (i := 35) rfl)
  have SC := sc_owner_spot
  refine ⟨fd, hf, hm, fnd_of0 (k := 1) hf SC fun cdv B outer s H E hr hgd => ?_⟩
  exact (fss_one (fs_ret (fe_meth (meth_index (room_65 hr)) (fe_ix (ix_D (room_65 hr)) (fe_var (pv 0)) fe_int) (fa_cons (fe_ix (ix_D (room_65 hr)) (fe_ix (ix_D (room_65 hr)) (fe_ix (ix_D (room_65 hr)) (fe_var (pv 0)) fe_int) (fe_call (cal_slot_spot T) hr (by omega) hgd (by rfl) C8.pass0 (fa_cons (fe_var (pv 0)) (fa_cons (fe_var (pv 1)) fa_nil)))) fe_int) fa_nil))))
theorem cal_owner_spot (T : TT K mg) : CalD P w K mg base C8.CX0 2 "owner_spot" 2 [] gAll F_owner_spot := by
  obtain ⟨fd, hf, hm, hF⟩ := fn_owner_spot (P := P) (w := w) (base := base) T
  exact ⟨_, fd, _, hF, hm, hf.kp, bdd_all (hf.bindsN fun _ _ _ _ _ _ us hl => match us, hl with | [_, _], _ => rfl)⟩
theorem sc_look_gap : FnScope ["program", "state", "deed", "places", "counts", "stamps", "stamp"] ["program", "state", "deed"] (defScope s_look_gap) := C8.fnScope_by (by decide +kernel)
theorem fn_look_gap (T : TT K mg) : ∃ fd, FunD K "look_gap" "look_gap" (defArgs s_look_gap) (defBody s_look_gap) (defScope s_look_gap) (d_look_gap.dvs K) (d_look_gap.kws K) (He.fAd K ("look_gap", none)) fd ∧ mg "look_gap" = some (.ref (He.fAd K ("look_gap", none))) ∧ FnD P w K mg base C8.CX0 3 (He.fAd K ("look_gap", none)) fd ["program", "state", "deed"] F_look_gap := by
  obtain ⟨fd, hf, hm⟩ := T.df d_look_gap (List.mem_of_getElem? (i := 36) rfl)
  have SC := sc_look_gap
  refine ⟨fd, hf, hm, fnd_of0 (k := 2) hf SC fun cdv B outer s H E hr hgd => ?_⟩
  exact (fss_cons (fs_asg (fe_var (pv 1)) (fg_tup rfl (fgs_cons (fg_name (pg_name (i := 3) SC.nd rfl (.inl rfl))) (fgs_cons (fg_name (pg_name (i := 4) SC.nd rfl (.inl rfl))) (fgs_cons (fg_name (pg_name (i := 5) SC.nd rfl (.inl rfl))) fgs_nil)))))
      (fss_cons (fs_set (i := 6) SC.nd rfl (.inl rfl) (fe_ix (ix_D (room_65 hr)) (fe_var (pv 5)) (fe_call (cal_slot_spot T) hr (by omega) hgd (by rfl) C8.pass0 (fa_cons (fe_var (pv 0)) (fa_cons (fe_ix (ix_D (room_65 hr)) (fe_var (pv 2)) fe_int) fa_nil)))))
      (fss_cons (fs_if (ft_cmp (op_inDD (room_65 hr)) (fe_ix (ix_D (room_65 hr)) (fe_var (pv 2)) fe_int) (fe_con (T.con ("COUNTER_LOOKS", C_COUNTER_LOOKS) (List.mem_of_getElem? (i := 0) rfl)) (by rfl))) (fss_one (fs_ret (fe_op op_subD (fe_ix (ix_D (room_65 hr)) (fe_var (pv 4)) (fe_call (cal_owner_spot T) hr (by omega) hgd (by rfl) C8.pass0 (fa_cons (fe_var (pv 0)) (fa_cons (fe_ix (ix_D (room_65 hr)) (fe_var (pv 2)) fe_int) fa_nil)))) (fe_var (pv 6))))) fss_nil)
      (fss_one (fs_ret (fe_op op_subD (fe_var (pv 6)) (fe_ix (ix_D (room_65 hr)) (fe_var (pv 5)) (fe_call (cal_slot_spot T) hr (by omega) hgd (by rfl) C8.pass0 (fa_cons (fe_var (pv 0)) (fa_cons (fe_ix (ix_D (room_65 hr)) (fe_var (pv 2)) fe_int) fa_nil))))))))))
theorem cal_look_gap (T : TT K mg) : CalD P w K mg base C8.CX0 3 "look_gap" 3 [] gAll F_look_gap := by
  obtain ⟨fd, hf, hm, hF⟩ := fn_look_gap (P := P) (w := w) (base := base) T
  exact ⟨_, fd, _, hF, hm, hf.kp, bdd_all (hf.bindsN fun _ _ _ _ _ _ us hl => match us, hl with | [_, _, _], _ => rfl)⟩
theorem sc_can_come : FnScope ["program", "state", "event", "deed"] ["program", "state", "event"] (defScope s_can_come) := C8.fnScope_by (by decide +kernel)
theorem fn_can_come (T : TT K mg) : ∃ fd, FunD K "can_come" "can_come" (defArgs s_can_come) (defBody s_can_come) (defScope s_can_come) (d_can_come.dvs K) (d_can_come.kws K) (He.fAd K ("can_come", none)) fd ∧ mg "can_come" = some (.ref (He.fAd K ("can_come", none))) ∧ FnD P w K mg base C8.CX0 5 (He.fAd K ("can_come", none)) fd ["program", "state", "event"] F_can_come := by
  obtain ⟨fd, hf, hm⟩ := T.df d_can_come (List.mem_of_getElem? (i := 37) rfl)
  have SC := sc_can_come
  refine ⟨fd, hf, hm, fnd_of0 (k := 4) hf SC fun cdv B outer s H E hr hgd => ?_⟩
  exact (fss_cons (fs_set (i := 3) SC.nd rfl (.inl rfl) (fe_ix (ix_D (room_65 hr)) (fe_call (cal_arrow_at T) hr (by omega) hgd (by rfl) C8.pass0 (fa_cons (fe_var (pv 0)) (fa_cons (fe_var (pv 2)) fa_nil))) fe_int))
      (fss_cons (fs_if (ft_not (ft_val (fe_call (cal_stands_at T) hr (by omega) hgd (by rfl) C8.pass0 (fa_cons (fe_var (pv 0)) (fa_cons (fe_var (pv 1)) (fa_cons (fe_var (pv 2)) fa_nil)))))) (fss_one (fs_ret fe_bl)) fss_nil)
      (fss_one (fs_ret (fe_or (fe_cmp (op_notInDD (room_65 hr)) (fe_ix (ix_D (room_65 hr)) (fe_var (pv 3)) fe_int) (fe_con (T.con ("LOOK_WORDS", C_LOOK_WORDS) (List.mem_of_getElem? (i := 4) rfl)) (by rfl))) (fe_one (fe_call (cal_is_true T) hr (by omega) hgd (by rfl) C8.pass0 (fa_cons (fe_ix (ix_D (room_65 hr)) (fe_var (pv 3)) fe_int) (fa_cons (fe_call (cal_look_gap T) hr (by omega) hgd (by rfl) C8.pass0 (fa_cons (fe_var (pv 0)) (fa_cons (fe_var (pv 1)) (fa_cons (fe_var (pv 3)) fa_nil)))) fa_nil)))))))))
theorem cal_can_come (T : TT K mg) : CalD P w K mg base C8.CX0 5 "can_come" 3 [] gAll F_can_come := by
  obtain ⟨fd, hf, hm, hF⟩ := fn_can_come (P := P) (w := w) (base := base) T
  exact ⟨_, fd, _, hF, hm, hf.kp, bdd_all (hf.bindsN fun _ _ _ _ _ _ us hl => match us, hl with | [_, _, _], _ => rfl)⟩
theorem sc_events_in : FnScope ["program", "state", "event"] ["program", "state"] (defScope s_events_in) := C8.fnScope_by (by decide +kernel)
theorem fn_events_in (T : TT K mg) : ∃ fd, FunD K "events_in" "events_in" (defArgs s_events_in) (defBody s_events_in) (defScope s_events_in) (d_events_in.dvs K) (d_events_in.kws K) (He.fAd K ("events_in", none)) fd ∧ mg "events_in" = some (.ref (He.fAd K ("events_in", none))) ∧ FnD P w K mg base C8.CX0 6 (He.fAd K ("events_in", none)) fd ["program", "state"] F_events_in := by
  obtain ⟨fd, hf, hm⟩ := T.df d_events_in (List.mem_of_getElem? (i := 38) rfl)
  have SC := sc_events_in
  refine ⟨fd, hf, hm, fnd_of0 (k := 5) hf SC fun cdv B outer s H E hr hgd => ?_⟩
  exact (fss_one (fs_ret (fe_callTy call_tupleD (by rfl) (T.fr "tuple" (List.mem_of_getElem? (i := 10) rfl)) (by decide +kernel) (fa_cons (fe_comp (own := [("event", 2)]) rfl SC.nd (fi_seq (fe_call (cal_all_events T) hr (by omega) hgd (by rfl) C8.pass0 (fa_cons (fe_var (pv 0)) fa_nil))) (blkOk_by (by rfl)) (fun _ _ _ _ _ => (fgc_name (pg_name (i := 2) SC.nd rfl (by first | exact .inl rfl | exact .inr rfl)))) (fun _ _ _ _ _ => (fts_one (ft_val (fe_call (cal_can_come T) hr (by omega) hgd (by rfl) C8.pass0 (fa_cons (fe_var (pv 0)) (fa_cons (fe_var (pv 1)) (fa_cons (fe_var (pv 2)) fa_nil))))))) (fun _ _ _ _ _ => (fe_var (pv 2)))) fa_nil))))
theorem cal_events_in (T : TT K mg) : CalD P w K mg base C8.CX0 6 "events_in" 2 [] gAll F_events_in := by
  obtain ⟨fd, hf, hm, hF⟩ := fn_events_in (P := P) (w := w) (base := base) T
  exact ⟨_, fd, _, hF, hm, hf.kp, bdd_all (hf.bindsN fun _ _ _ _ _ _ us hl => match us, hl with | [_, _], _ => rfl)⟩
theorem sc_require_given : FnScope ["is_given", "name", "at"] ["is_given", "name", "at"] (defScope s_require_given) := C8.fnScope_by (by decide +kernel)
theorem fn_require_given (T : TT K mg) : ∃ fd, FunD K "require_given" "require_given" (defArgs s_require_given) (defBody s_require_given) (defScope s_require_given) (d_require_given.dvs K) (d_require_given.kws K) (He.fAd K ("require_given", none)) fd ∧ mg "require_given" = some (.ref (He.fAd K ("require_given", none))) ∧ FnD P w K mg base C8.CX0 1 (He.fAd K ("require_given", none)) fd ["is_given", "name", "at"] F_require_given := by
  obtain ⟨fd, hf, hm⟩ := T.df d_require_given (List.mem_of_getElem? (i := 39) rfl)
  have SC := sc_require_given
  refine ⟨fd, hf, hm, fnd_of0 (k := 0) hf SC fun cdv B outer s H E hr hgd => ?_⟩
  exact (fss_one (fs_if (ft_not (ft_val (fe_var (pv 0)))) (fss_one fs_no) fss_nil))
theorem cal_require_given_2 (T : TT K mg) : CalD P w K mg base C8.CX0 1 "require_given" 2 [] (gDef [.int (-1)]) F_require_given := by
  obtain ⟨fd, hf, hm, hF⟩ := fn_require_given (P := P) (w := w) (base := base) T
  exact ⟨_, fd, _, hF, hm, hf.kp, bdd_def 2 (hf.binds1 2 0 (by simp [d_require_given, He.DefD.dvs]) (by rfl) fun _ _ _ _ _ _ _ us its h1 h2 => match us, its, h1, h2 with | [_, _], [_], _, _ => ⟨_, rfl, rfl⟩) (fun G A => (.cons (.int _) .nil)) rfl⟩
theorem sc_first_state : FnScope ["program", "counters", "slots", "parties"] ["program"] (defScope s_first_state) := C8.fnScope_by (by decide +kernel)
theorem fn_first_state (T : TT K mg) : ∃ fd, FunD K "first_state" "first_state" (defArgs s_first_state) (defBody s_first_state) (defScope s_first_state) (d_first_state.dvs K) (d_first_state.kws K) (He.fAd K ("first_state", none)) fd ∧ mg "first_state" = some (.ref (He.fAd K ("first_state", none))) ∧ FnD P w K mg base C8.CX0 1 (He.fAd K ("first_state", none)) fd ["program"] F_first_state := by
  obtain ⟨fd, hf, hm⟩ := T.df d_first_state (List.mem_of_getElem? (i := 40) rfl)
  have SC := sc_first_state
  refine ⟨fd, hf, hm, fnd_of0 (k := 0) hf SC fun cdv B outer s H E hr hgd => ?_⟩
  exact (fss_cons (fs_asg (fe_var (pv 0)) (fg_tup rfl (fgs_cons (fg_name (pg_name (i := 1) SC.nd rfl (.inl rfl))) (fgs_cons (fg_name (pg_name (i := 2) SC.nd rfl (.inl rfl))) (fgs_cons (fg_name (pg_name (i := 3) SC.nd rfl (.inl rfl))) fgs_nil)))))
      (fss_one (fs_ret (fe_tup (fa_cons (fe_op op_mulD (fe_tup (fa_cons fe_int fa_nil)) (fe_callB call_lenD (by rfl) (T.fr "len" (List.mem_of_getElem? (i := 5) rfl)) (by decide +kernel) (fa_cons (fe_var (pv 3)) fa_nil))) (fa_cons (fe_op op_mulD (fe_tup (fa_cons fe_int fa_nil)) (fe_callB call_lenD (by rfl) (T.fr "len" (List.mem_of_getElem? (i := 5) rfl)) (by decide +kernel) (fa_cons (fe_var (pv 1)) fa_nil))) (fa_cons (fe_op op_mulD (fe_tup (fa_cons fe_int fa_nil)) (fe_callB call_lenD (by rfl) (T.fr "len" (List.mem_of_getElem? (i := 5) rfl)) (by decide +kernel) (fa_cons (fe_var (pv 2)) fa_nil))) fa_nil)))))))
theorem cal_first_state (T : TT K mg) : CalD P w K mg base C8.CX0 1 "first_state" 1 [] gAll F_first_state := by
  obtain ⟨fd, hf, hm, hF⟩ := fn_first_state (P := P) (w := w) (base := base) T
  exact ⟨_, fd, _, hF, hm, hf.kp, bdd_all (hf.bindsN fun _ _ _ _ _ _ us hl => match us, hl with | [_], _ => rfl)⟩
theorem sc_is_name : FnScope ["thing", "sign"] ["thing"] (defScope s_is_name) := C8.fnScope_by (by decide +kernel)
theorem fn_is_name (T : TT K mg) : ∃ fd, FunD K "is_name" "is_name" (defArgs s_is_name) (defBody s_is_name) (defScope s_is_name) (d_is_name.dvs K) (d_is_name.kws K) (He.fAd K ("is_name", none)) fd ∧ mg "is_name" = some (.ref (He.fAd K ("is_name", none))) ∧ FnD P w K mg base C8.CX0 1 (He.fAd K ("is_name", none)) fd ["thing"] F_is_name := by
  obtain ⟨fd, hf, hm⟩ := T.df d_is_name (List.mem_of_getElem? (i := 41) rfl)
  have SC := sc_is_name
  refine ⟨fd, hf, hm, fnd_of0 (k := 0) hf SC fun cdv B outer s H E hr hgd => ?_⟩
  exact (fss_cons (fs_if (PW.pt (fw_or (ft_not (ft_val (fe_isi .str (fe_var (pv 0)) (pe_bltn (v := .ty "str") (by rfl) (T.fr "str" (List.mem_of_getElem? (i := 9) rfl)) (by decide +kernel) rfl) (by rfl) (T.fr "isinstance" (List.mem_of_getElem? (i := 4) rfl))))) (fw_or1 (ft_not (ft_chain op_leD op_leD fe_int (fe_callB call_lenD (by rfl) (T.fr "len" (List.mem_of_getElem? (i := 5) rfl)) (by decide +kernel) (fa_cons (fe_var (pv 0)) fa_nil)) (fe_con (T.con ("LONGEST_NAME", C_LONGEST_NAME) (List.mem_of_getElem? (i := 3) rfl)) (by rfl))))))) (fss_one (fs_ret fe_bl)) fss_nil)
      (fss_one (fs_ret (fe_callB (call_allD rfl) (by rfl) (T.fr "all" (List.mem_of_getElem? (i := 0) rfl)) (by decide +kernel) (fa_cons (fe_comp (own := [("sign", 1)]) rfl SC.nd (fi_seq (fe_var (pv 0))) (blkOk_by (by rfl)) (fun _ _ _ _ _ => (fgc_name (pg_name (i := 1) SC.nd rfl (by first | exact .inl rfl | exact .inr rfl)))) (fun _ _ _ _ _ => fts_nil) (fun _ _ _ _ _ => (fe_cmp (op_inDD (room_65 hr)) (fe_var (pv 1)) (fe_con (T.con ("LETTERS", C_LETTERS) (List.mem_of_getElem? (i := 2) rfl)) (by rfl))))) fa_nil)))))
theorem cal_is_name (T : TT K mg) : CalD P w K mg base C8.CX0 1 "is_name" 1 [] gAll F_is_name := by
  obtain ⟨fd, hf, hm, hF⟩ := fn_is_name (P := P) (w := w) (base := base) T
  exact ⟨_, fd, _, hF, hm, hf.kp, bdd_all (hf.bindsN fun _ _ _ _ _ _ us hl => match us, hl with | [_], _ => rfl)⟩
theorem sc_is_integer : FnScope ["thing"] ["thing"] (defScope s_is_integer) := C8.fnScope_by (by decide +kernel)
theorem fn_is_integer (T : TT K mg) : ∃ fd, FunD K "is_integer" "is_integer" (defArgs s_is_integer) (defBody s_is_integer) (defScope s_is_integer) (d_is_integer.dvs K) (d_is_integer.kws K) (He.fAd K ("is_integer", none)) fd ∧ mg "is_integer" = some (.ref (He.fAd K ("is_integer", none))) ∧ FnD P w K mg base C8.CX0 1 (He.fAd K ("is_integer", none)) fd ["thing"] F_is_integer := by
  obtain ⟨fd, hf, hm⟩ := T.df d_is_integer (List.mem_of_getElem? (i := 42) rfl)
  have SC := sc_is_integer
  refine ⟨fd, hf, hm, fnd_of0 (k := 0) hf SC fun cdv B outer s H E hr hgd => ?_⟩
  exact (fss_one (fs_ret (fe_and (fe_isi .int (fe_var (pv 0)) (pe_bltn (v := .ty "int") (by rfl) (T.fr "int" (List.mem_of_getElem? (i := 3) rfl)) (by decide +kernel) rfl) (by rfl) (T.fr "isinstance" (List.mem_of_getElem? (i := 4) rfl))) (fe_one (fe_not (fe_isi .bool (fe_var (pv 0)) (pe_bltn (v := .ty "bool") (by rfl) (T.fr "bool" (List.mem_of_getElem? (i := 1) rfl)) (by decide +kernel) rfl) (by rfl) (T.fr "isinstance" (List.mem_of_getElem? (i := 4) rfl))))))))
theorem cal_is_integer (T : TT K mg) : CalD P w K mg base C8.CX0 1 "is_integer" 1 [] gAll F_is_integer := by
  obtain ⟨fd, hf, hm, hF⟩ := fn_is_integer (P := P) (w := w) (base := base) T
  exact ⟨_, fd, _, hF, hm, hf.kp, bdd_all (hf.bindsN fun _ _ _ _ _ _ us hl => match us, hl with | [_], _ => rfl)⟩
theorem sc_is_number : FnScope ["thing"] ["thing"] (defScope s_is_number) := C8.fnScope_by (by decide +kernel)
theorem fn_is_number (T : TT K mg) : ∃ fd, FunD K "is_number" "is_number" (defArgs s_is_number) (defBody s_is_number) (defScope s_is_number) (d_is_number.dvs K) (d_is_number.kws K) (He.fAd K ("is_number", none)) fd ∧ mg "is_number" = some (.ref (He.fAd K ("is_number", none))) ∧ FnD P w K mg base C8.CX0 2 (He.fAd K ("is_number", none)) fd ["thing"] F_is_number := by
  obtain ⟨fd, hf, hm⟩ := T.df d_is_number (List.mem_of_getElem? (i := 43) rfl)
  have SC := sc_is_number
  refine ⟨fd, hf, hm, fnd_of0 (k := 1) hf SC fun cdv B outer s H E hr hgd => ?_⟩
  exact (fss_one (fs_ret (fe_and (fe_call (cal_is_integer T) hr (by omega) hgd (by rfl) C8.pass0 (fa_cons (fe_var (pv 0)) fa_nil)) (fe_one (fe_cmp op_geD (fe_var (pv 0)) fe_int)))))
theorem cal_is_number (T : TT K mg) : CalD P w K mg base C8.CX0 2 "is_number" 1 [] gAll F_is_number := by
  obtain ⟨fd, hf, hm, hF⟩ := fn_is_number (P := P) (w := w) (base := base) T
  exact ⟨_, fd, _, hF, hm, hf.kp, bdd_all (hf.bindsN fun _ _ _ _ _ _ us hl => match us, hl with | [_], _ => rfl)⟩
theorem sc_is_event_of : FnScope ["program", "thing"] ["program", "thing"] (defScope s_is_event_of) := C8.fnScope_by (by decide +kernel)
theorem fn_is_event_of (T : TT K mg) : ∃ fd, FunD K "is_event_of" "is_event_of" (defArgs s_is_event_of) (defBody s_is_event_of) (defScope s_is_event_of) (d_is_event_of.dvs K) (d_is_event_of.kws K) (He.fAd K ("is_event_of", none)) fd ∧ mg "is_event_of" = some (.ref (He.fAd K ("is_event_of", none))) ∧ FnD P w K mg base C8.CX0 3 (He.fAd K ("is_event_of", none)) fd ["program", "thing"] F_is_event_of := by
  obtain ⟨fd, hf, hm⟩ := T.df d_is_event_of (List.mem_of_getElem? (i := 44) rfl)
  have SC := sc_is_event_of
  refine ⟨fd, hf, hm, fnd_of0 (k := 2) hf SC fun cdv B outer s H E hr hgd => ?_⟩
  exact (fss_cons (fs_if (PW.pt (fw_or (ft_not (ft_val (fe_isi .tuple (fe_var (pv 1)) (pe_bltn (v := .ty "tuple") (by rfl) (T.fr "tuple" (List.mem_of_getElem? (i := 10) rfl)) (by decide +kernel) rfl) (by rfl) (T.fr "isinstance" (List.mem_of_getElem? (i := 4) rfl))))) (fw_or (ft_cmp (op_neDD (room_64 hr)) (fe_callB call_lenD (by rfl) (T.fr "len" (List.mem_of_getElem? (i := 5) rfl)) (by decide +kernel) (fa_cons (fe_var (pv 1)) fa_nil)) fe_int) (fw_or (ft_not (ft_val (fe_call (cal_is_name T) hr (by omega) hgd (by rfl) C8.pass0 (fa_cons (fe_ix (ix_D (room_65 hr)) (fe_var (pv 1)) fe_int) fa_nil)))) (fw_or1 (ft_not (ft_val (fe_call (cal_is_number T) hr (by omega) hgd (by rfl) C8.pass0 (fa_cons (fe_ix (ix_D (room_65 hr)) (fe_var (pv 1)) fe_int) fa_nil))))))))) (fss_one (fs_ret fe_bl)) fss_nil)
      (fss_one (fs_ret (fe_and (fe_cmp (op_inDD (room_65 hr)) (fe_ix (ix_D (room_65 hr)) (fe_var (pv 1)) fe_int) (fe_call (cal_party_names T) hr (by omega) hgd (by rfl) C8.pass0 (fa_cons (fe_var (pv 0)) fa_nil))) (fe_one (fe_cmp op_ltD (fe_ix (ix_D (room_65 hr)) (fe_var (pv 1)) fe_int) (fe_callB call_lenD (by rfl) (T.fr "len" (List.mem_of_getElem? (i := 5) rfl)) (by decide +kernel) (fa_cons (fe_ix (ix_D (room_65 hr)) (fe_ix (ix_D (room_65 hr)) (fe_ix (ix_D (room_65 hr)) (fe_var (pv 0)) fe_int) (fe_call (cal_party_spot T) hr (by omega) hgd (by rfl) C8.pass0 (fa_cons (fe_var (pv 0)) (fa_cons (fe_ix (ix_D (room_65 hr)) (fe_var (pv 1)) fe_int) fa_nil)))) fe_int) fa_nil))))))))
theorem cal_is_event_of (T : TT K mg) : CalD P w K mg base C8.CX0 3 "is_event_of" 2 [] gAll F_is_event_of := by
  obtain ⟨fd, hf, hm, hF⟩ := fn_is_event_of (P := P) (w := w) (base := base) T
  exact ⟨_, fd, _, hF, hm, hf.kp, bdd_all (hf.bindsN fun _ _ _ _ _ _ us hl => match us, hl with | [_, _], _ => rfl)⟩
theorem sc_fault_in : FnScope ["program", "state", "thing"] ["program", "state", "thing"] (defScope s_fault_in) := C8.fnScope_by (by decide +kernel)
theorem fn_fault_in (T : TT K mg) : ∃ fd, FunD K "fault_in" "fault_in" (defArgs s_fault_in) (defBody s_fault_in) (defScope s_fault_in) (d_fault_in.dvs K) (d_fault_in.kws K) (He.fAd K ("fault_in", none)) fd ∧ mg "fault_in" = some (.ref (He.fAd K ("fault_in", none))) ∧ FnD P w K mg base C8.CX0 6 (He.fAd K ("fault_in", none)) fd ["program", "state", "thing"] F_fault_in := by
  obtain ⟨fd, hf, hm⟩ := T.df d_fault_in (List.mem_of_getElem? (i := 45) rfl)
  have SC := sc_fault_in
  refine ⟨fd, hf, hm, fnd_of0 (k := 5) hf SC fun cdv B outer s H E hr hgd => ?_⟩
  exact (fss_cons (fs_if (ft_not (ft_val (fe_call (cal_is_event_of T) hr (by omega) hgd (by rfl) C8.pass0 (fa_cons (fe_var (pv 0)) (fa_cons (fe_var (pv 2)) fa_nil))))) (fss_one (fs_ret (fe_str (by decide +kernel)))) fss_nil)
      (fss_cons (fs_if (ft_not (ft_val (fe_call (cal_stands_at T) hr (by omega) hgd (by rfl) C8.pass0 (fa_cons (fe_var (pv 0)) (fa_cons (fe_var (pv 1)) (fa_cons (fe_var (pv 2)) fa_nil)))))) (fss_one (fs_ret (fe_str (by decide +kernel)))) fss_nil)
      (fss_one (fs_ret (fe_if (ft_val (fe_call (cal_can_come T) hr (by omega) hgd (by rfl) C8.pass0 (fa_cons (fe_var (pv 0)) (fa_cons (fe_var (pv 1)) (fa_cons (fe_var (pv 2)) fa_nil))))) (fe_str (by decide +kernel)) (fe_str (by decide +kernel)))))))
theorem cal_fault_in (T : TT K mg) : CalD P w K mg base C8.CX0 6 "fault_in" 3 [] gAll F_fault_in := by
  obtain ⟨fd, hf, hm, hF⟩ := fn_fault_in (P := P) (w := w) (base := base) T
  exact ⟨_, fd, _, hF, hm, hf.kp, bdd_all (hf.bindsN fun _ _ _ _ _ _ us hl => match us, hl with | [_, _, _], _ => rfl)⟩
theorem sc_put_at : FnScope ["some", "spot", "value"] ["some", "spot", "value"] (defScope s_put_at) := C8.fnScope_by (by decide +kernel)
theorem fn_put_at (T : TT K mg) : ∃ fd, FunD K "put_at" "put_at" (defArgs s_put_at) (defBody s_put_at) (defScope s_put_at) (d_put_at.dvs K) (d_put_at.kws K) (He.fAd K ("put_at", none)) fd ∧ mg "put_at" = some (.ref (He.fAd K ("put_at", none))) ∧ FnD P w K mg base C8.CX0 1 (He.fAd K ("put_at", none)) fd ["some", "spot", "value"] F_put_at := by
  obtain ⟨fd, hf, hm⟩ := T.df d_put_at (List.mem_of_getElem? (i := 46) rfl)
  have SC := sc_put_at
  refine ⟨fd, hf, hm, fnd_of0 (k := 0) hf SC fun cdv B outer s H E hr hgd => ?_⟩
  exact (fss_one (fs_ret (fe_tup (fa_star (fe_sl (fe_var (pv 0)) fo_none (fo_some (fe_var (pv 1)))) (fa_cons (fe_var (pv 2)) (fa_star (fe_sl (fe_var (pv 0)) (fo_some (fe_op op_addD (fe_var (pv 1)) fe_int)) fo_none) fa_nil))))))
theorem cal_put_at (T : TT K mg) : CalD P w K mg base C8.CX0 1 "put_at" 3 [] gAll F_put_at := by
  obtain ⟨fd, hf, hm, hF⟩ := fn_put_at (P := P) (w := w) (base := base) T
  exact ⟨_, fd, _, hF, hm, hf.kp, bdd_all (hf.bindsN fun _ _ _ _ _ _ us hl => match us, hl with | [_, _, _], _ => rfl)⟩
theorem sc_state_behind : FnScope ["program", "state", "event", "places", "counts", "stamps", "place", "deed", "target", "spot"] ["program", "state", "event"] (defScope s_state_behind) := C8.fnScope_by (by decide +kernel)
theorem fn_state_behind (T : TT K mg) : ∃ fd, FunD K "state_behind" "state_behind" (defArgs s_state_behind) (defBody s_state_behind) (defScope s_state_behind) (d_state_behind.dvs K) (d_state_behind.kws K) (He.fAd K ("state_behind", none)) fd ∧ mg "state_behind" = some (.ref (He.fAd K ("state_behind", none))) ∧ FnD P w K mg base C8.CX0 4 (He.fAd K ("state_behind", none)) fd ["program", "state", "event"] F_state_behind := by
  obtain ⟨fd, hf, hm⟩ := T.df d_state_behind (List.mem_of_getElem? (i := 47) rfl)
  have SC := sc_state_behind
  refine ⟨fd, hf, hm, fnd_of0 (k := 3) hf SC fun cdv B outer s H E hr hgd => ?_⟩
  exact (fss_cons (fs_asg (fe_var (pv 1)) (fg_tup rfl (fgs_cons (fg_name (pg_name (i := 3) SC.nd rfl (.inl rfl))) (fgs_cons (fg_name (pg_name (i := 4) SC.nd rfl (.inl rfl))) (fgs_cons (fg_name (pg_name (i := 5) SC.nd rfl (.inl rfl))) fgs_nil)))))
      (fss_cons (fs_asg (fe_call (cal_arrow_at T) hr (by omega) hgd (by rfl) C8.pass0 (fa_cons (fe_var (pv 0)) (fa_cons (fe_var (pv 2)) fa_nil))) (fg_tup rfl (fgs_cons (fg_name (pg_name (i := 6) SC.nd rfl (.inl rfl))) (fgs_cons (fg_name (pg_name (i := 7) SC.nd rfl (.inl rfl))) (fgs_cons (fg_name (pg_name (i := 8) SC.nd rfl (.inl rfl))) fgs_nil)))))
      (fss_cons (fs_set (i := 3) SC.nd rfl (.inl rfl) (fe_call (cal_put_at T) hr (by omega) hgd (by rfl) C8.pass0 (fa_cons (fe_var (pv 3)) (fa_cons (fe_call (cal_party_spot T) hr (by omega) hgd (by rfl) C8.pass0 (fa_cons (fe_var (pv 0)) (fa_cons (fe_ix (ix_D (room_65 hr)) (fe_var (pv 2)) fe_int) fa_nil))) (fa_cons (fe_var (pv 8)) fa_nil)))))
      (fss_cons (fs_if (ft_cmp (op_eqDD (room_64 hr)) (fe_ix (ix_D (room_65 hr)) (fe_var (pv 7)) fe_int) (fe_str (by decide +kernel))) (fss_cons (fs_set (i := 9) SC.nd rfl (.inl rfl) (fe_meth (meth_index (room_65 hr)) (fe_ix (ix_D (room_65 hr)) (fe_var (pv 0)) fe_int) (fa_cons (fe_ix (ix_D (room_65 hr)) (fe_var (pv 7)) fe_int) fa_nil)))
      (fss_one (fs_set (i := 4) SC.nd rfl (.inl rfl) (fe_call (cal_put_at T) hr (by omega) hgd (by rfl) C8.pass0 (fa_cons (fe_var (pv 4)) (fa_cons (fe_var (pv 9)) (fa_cons (fe_op op_addD (fe_ix (ix_D (room_65 hr)) (fe_var (pv 4)) (fe_var (pv 9))) (fe_ix (ix_D (room_65 hr)) (fe_var (pv 7)) fe_int)) fa_nil))))))) (fss_one (fs_if (ft_cmp (op_eqDD (room_64 hr)) (fe_ix (ix_D (room_65 hr)) (fe_var (pv 7)) fe_int) (fe_str (by decide +kernel))) (fss_one (fs_set (i := 5) SC.nd rfl (.inl rfl) (fe_call (cal_put_at T) hr (by omega) hgd (by rfl) C8.pass0 (fa_cons (fe_var (pv 5)) (fa_cons (fe_call (cal_slot_spot T) hr (by omega) hgd (by rfl) C8.pass0 (fa_cons (fe_var (pv 0)) (fa_cons (fe_ix (ix_D (room_65 hr)) (fe_var (pv 7)) fe_int) fa_nil))) (fa_cons (fe_ix (ix_D (room_65 hr)) (fe_var (pv 4)) (fe_call (cal_owner_spot T) hr (by omega) hgd (by rfl) C8.pass0 (fa_cons (fe_var (pv 0)) (fa_cons (fe_ix (ix_D (room_65 hr)) (fe_var (pv 7)) fe_int) fa_nil)))) fa_nil)))))) (fss_one (fs_if (ft_cmp (op_eqDD (room_64 hr)) (fe_ix (ix_D (room_65 hr)) (fe_var (pv 7)) fe_int) (fe_str (by decide +kernel))) (fss_one (fs_set (i := 5) SC.nd rfl (.inl rfl) (fe_call (cal_put_at T) hr (by omega) hgd (by rfl) C8.pass0 (fa_cons (fe_var (pv 5)) (fa_cons (fe_call (cal_slot_spot T) hr (by omega) hgd (by rfl) C8.pass0 (fa_cons (fe_var (pv 0)) (fa_cons (fe_ix (ix_D (room_65 hr)) (fe_var (pv 7)) fe_int) fa_nil))) (fa_cons (fe_ix (ix_D (room_65 hr)) (fe_var (pv 5)) (fe_call (cal_slot_spot T) hr (by omega) hgd (by rfl) C8.pass0 (fa_cons (fe_var (pv 0)) (fa_cons (fe_ix (ix_D (room_65 hr)) (fe_var (pv 7)) fe_int) fa_nil)))) fa_nil)))))) fss_nil)))))
      (fss_one (fs_ret (fe_tup (fa_cons (fe_var (pv 3)) (fa_cons (fe_var (pv 4)) (fa_cons (fe_var (pv 5)) fa_nil))))))))))
theorem cal_state_behind (T : TT K mg) : CalD P w K mg base C8.CX0 4 "state_behind" 3 [] gAll F_state_behind := by
  obtain ⟨fd, hf, hm, hF⟩ := fn_state_behind (P := P) (w := w) (base := base) T
  exact ⟨_, fd, _, hF, hm, hf.kp, bdd_all (hf.bindsN fun _ _ _ _ _ _ us hl => match us, hl with | [_, _, _], _ => rfl)⟩
theorem sc_run_fault : FnScope ["program", "thing", "state", "k", "event", "word"] ["program", "thing"] (defScope s_run_fault) := C8.fnScope_by (by decide +kernel)
theorem fn_run_fault (T : TT K mg) : ∃ fd, FunD K "run_fault" "run_fault" (defArgs s_run_fault) (defBody s_run_fault) (defScope s_run_fault) (d_run_fault.dvs K) (d_run_fault.kws K) (He.fAd K ("run_fault", none)) fd ∧ mg "run_fault" = some (.ref (He.fAd K ("run_fault", none))) ∧ FnD P w K mg base C8.CX0 7 (He.fAd K ("run_fault", none)) fd ["program", "thing"] F_run_fault := by
  obtain ⟨fd, hf, hm⟩ := T.df d_run_fault (List.mem_of_getElem? (i := 48) rfl)
  have SC := sc_run_fault
  refine ⟨fd, hf, hm, fnd_of0 (k := 6) hf SC fun cdv B outer s H E hr hgd => ?_⟩
  exact (fss_cons (fs_if (ft_not (ft_val (fe_isi .tuple (fe_var (pv 1)) (pe_bltn (v := .ty "tuple") (by rfl) (T.fr "tuple" (List.mem_of_getElem? (i := 10) rfl)) (by decide +kernel) rfl) (by rfl) (T.fr "isinstance" (List.mem_of_getElem? (i := 4) rfl))))) (fss_one (fs_ret (fe_tup (fa_cons (fe_str (by decide +kernel)) (fa_cons (fe_un un_negD fe_int) fa_nil))))) fss_nil)
      (fss_cons (fs_set (i := 2) SC.nd rfl (.inl rfl) (fe_call (cal_first_state T) hr (by omega) hgd (by rfl) C8.pass0 (fa_cons (fe_var (pv 0)) fa_nil)))
      (fss_cons (fs_for PassesOwn.never rfl (fi_enum (by rfl) (T.fr "enumerate" (List.mem_of_getElem? (i := 2) rfl)) (fa_cons (fe_var (pv 1)) fa_nil)) (fgw_u rfl (fgs_cons (fg_name (pg_name (i := 3) SC.nd rfl (.inl rfl))) (fgs_cons (fg_name (pg_name (i := 4) SC.nd rfl (.inl rfl))) fgs_nil))) (fss_cons (fs_set (i := 5) SC.nd rfl (.inl rfl) (fe_call (cal_fault_in T) hr (by omega) hgd (by rfl) C8.pass0 (fa_cons (fe_var (pv 0)) (fa_cons (fe_var (pv 2)) (fa_cons (fe_var (pv 4)) fa_nil)))))
      (fss_cons (fs_if (ft_cmp (op_neDD (room_64 hr)) (fe_var (pv 5)) (fe_str (by decide +kernel))) (fss_one (fs_ret (fe_tup (fa_cons (fe_var (pv 5)) (fa_cons (fe_var (pv 3)) fa_nil))))) fss_nil)
      (fss_one (fs_set (i := 2) SC.nd rfl (.inl rfl) (fe_call (cal_state_behind T) hr (by omega) hgd (by rfl) C8.pass0 (fa_cons (fe_var (pv 0)) (fa_cons (fe_var (pv 2)) (fa_cons (fe_var (pv 4)) fa_nil)))))))))
      (fss_one (fs_ret fe_non)))))
theorem cal_run_fault (T : TT K mg) : CalD P w K mg base C8.CX0 7 "run_fault" 2 [] gAll F_run_fault := by
  obtain ⟨fd, hf, hm, hF⟩ := fn_run_fault (P := P) (w := w) (base := base) T
  exact ⟨_, fd, _, hF, hm, hf.kp, bdd_all (hf.bindsN fun _ _ _ _ _ _ us hl => match us, hl with | [_, _], _ => rfl)⟩
theorem sc_is_run : FnScope ["program", "thing"] ["program", "thing"] (defScope s_is_run) := C8.fnScope_by (by decide +kernel)
theorem fn_is_run (T : TT K mg) : ∃ fd, FunD K "is_run" "is_run" (defArgs s_is_run) (defBody s_is_run) (defScope s_is_run) (d_is_run.dvs K) (d_is_run.kws K) (He.fAd K ("is_run", none)) fd ∧ mg "is_run" = some (.ref (He.fAd K ("is_run", none))) ∧ FnD P w K mg base C8.CX0 8 (He.fAd K ("is_run", none)) fd ["program", "thing"] F_is_run := by
  obtain ⟨fd, hf, hm⟩ := T.df d_is_run (List.mem_of_getElem? (i := 49) rfl)
  have SC := sc_is_run
  refine ⟨fd, hf, hm, fnd_of0 (k := 7) hf SC fun cdv B outer s H E hr hgd => ?_⟩
  exact (fss_one (fs_ret (fe_cmp op_isND (fe_call (cal_run_fault T) hr (by omega) hgd (by rfl) C8.pass0 (fa_cons (fe_var (pv 0)) (fa_cons (fe_var (pv 1)) fa_nil))) fe_non)))
theorem cal_is_run (T : TT K mg) : CalD P w K mg base C8.CX0 8 "is_run" 2 [] gAll F_is_run := by
  obtain ⟨fd, hf, hm, hF⟩ := fn_is_run (P := P) (w := w) (base := base) T
  exact ⟨_, fd, _, hF, hm, hf.kp, bdd_all (hf.bindsN fun _ _ _ _ _ _ us hl => match us, hl with | [_, _], _ => rfl)⟩
theorem sc_states_along : FnScope ["program", "events", "found", "event"] ["program", "events"] (defScope s_states_along) := C8.fnScope_by (by decide +kernel)
theorem fn_states_along (T : TT K mg) : ∃ fd, FunD K "states_along" "states_along" (defArgs s_states_along) (defBody s_states_along) (defScope s_states_along) (d_states_along.dvs K) (d_states_along.kws K) (He.fAd K ("states_along", none)) fd ∧ mg "states_along" = some (.ref (He.fAd K ("states_along", none))) ∧ FnD P w K mg base C8.CX0 5 (He.fAd K ("states_along", none)) fd ["program", "events"] F_states_along := by
  obtain ⟨fd, hf, hm⟩ := T.df d_states_along (List.mem_of_getElem? (i := 50) rfl)
  have SC := sc_states_along
  refine ⟨fd, hf, hm, fnd_of0 (k := 4) hf SC fun cdv B outer s H E hr hgd => ?_⟩
  exact (fss_cons (fs_set (i := 2) SC.nd rfl (.inl rfl) (fe_newL (fa_cons (fe_call (cal_first_state T) hr (by omega) hgd (by rfl) C8.pass0 (fa_cons (fe_var (pv 0)) fa_nil)) fa_nil)))
      (fss_cons (fs_for PassesOwn.never rfl (fi_seq (fe_var (pv 1))) (fgw_n (fg_name (pg_name (i := 3) SC.nd rfl (.inl rfl)))) (fss_one (fs_expr (fe_mut mut_append (fe_var (pv 2)) (fa_cons (fe_call (cal_state_behind T) hr (by omega) hgd (by rfl) C8.pass0 (fa_cons (fe_var (pv 0)) (fa_cons (fe_ix (ix_D (room_65 hr)) (fe_var (pv 2)) (fe_un un_negD fe_int)) (fa_cons (fe_var (pv 3)) fa_nil)))) fa_nil)))))
      (fss_one (fs_ret (fe_var (pv 2))))))
theorem cal_states_along (T : TT K mg) : CalD P w K mg base C8.CX0 5 "states_along" 2 [] gAll F_states_along := by
  obtain ⟨fd, hf, hm, hF⟩ := fn_states_along (P := P) (w := w) (base := base) T
  exact ⟨_, fd, _, hF, hm, hf.kp, bdd_all (hf.bindsN fun _ _ _ _ _ _ us hl => match us, hl with | [_, _], _ => rfl)⟩
theorem sc_state_after : FnScope ["program", "made"] ["program", "made"] (defScope s_state_after) := C8.fnScope_by (by decide +kernel)
theorem fn_state_after (T : TT K mg) : ∃ fd, FunD K "state_after" "state_after" (defArgs s_state_after) (defBody s_state_after) (defScope s_state_after) (d_state_after.dvs K) (d_state_after.kws K) (He.fAd K ("state_after", none)) fd ∧ mg "state_after" = some (.ref (He.fAd K ("state_after", none))) ∧ FnD P w K mg base C8.CX0 9 (He.fAd K ("state_after", none)) fd ["program", "made"] F_state_after := by
  obtain ⟨fd, hf, hm⟩ := T.df d_state_after (List.mem_of_getElem? (i := 51) rfl)
  have SC := sc_state_after
  refine ⟨fd, hf, hm, fnd_of0 (k := 8) hf SC fun cdv B outer s H E hr hgd => ?_⟩
  exact (fss_cons (fs_expr (fe_call (cal_require_given_2 T) hr (by omega) hgd (by rfl) C8.pass0 (fa_cons (fe_call (cal_is_run T) hr (by omega) hgd (by rfl) C8.pass0 (fa_cons (fe_var (pv 0)) (fa_cons (fe_var (pv 1)) fa_nil))) (fa_cons (fe_str (by decide +kernel)) fa_nil))))
      (fss_one (fs_ret (fe_ix (ix_D (room_65 hr)) (fe_call (cal_states_along T) hr (by omega) hgd (by rfl) C8.pass0 (fa_cons (fe_var (pv 0)) (fa_cons (fe_var (pv 1)) fa_nil))) (fe_un un_negD fe_int)))))
theorem cal_state_after (T : TT K mg) : CalD P w K mg base C8.CX0 9 "state_after" 2 [] gAll F_state_after := by
  obtain ⟨fd, hf, hm, hF⟩ := fn_state_after (P := P) (w := w) (base := base) T
  exact ⟨_, fd, _, hF, hm, hf.kp, bdd_all (hf.bindsN fun _ _ _ _ _ _ us hl => match us, hl with | [_, _], _ => rfl)⟩
theorem sc_next_events : FnScope ["program", "made"] ["program", "made"] (defScope s_next_events) := C8.fnScope_by (by decide +kernel)
theorem fn_next_events (T : TT K mg) : ∃ fd, FunD K "next_events" "next_events" (defArgs s_next_events) (defBody s_next_events) (defScope s_next_events) (d_next_events.dvs K) (d_next_events.kws K) (He.fAd K ("next_events", none)) fd ∧ mg "next_events" = some (.ref (He.fAd K ("next_events", none))) ∧ FnD P w K mg base C8.CX0 10 (He.fAd K ("next_events", none)) fd ["program", "made"] F_next_events := by
  obtain ⟨fd, hf, hm⟩ := T.df d_next_events (List.mem_of_getElem? (i := 52) rfl)
  have SC := sc_next_events
  refine ⟨fd, hf, hm, fnd_of0 (k := 9) hf SC fun cdv B outer s H E hr hgd => ?_⟩
  exact (fss_one (fs_ret (fe_call (cal_events_in T) hr (by omega) hgd (by rfl) C8.pass0 (fa_cons (fe_var (pv 0)) (fa_cons (fe_call (cal_state_after T) hr (by omega) hgd (by rfl) C8.pass0 (fa_cons (fe_var (pv 0)) (fa_cons (fe_var (pv 1)) fa_nil))) fa_nil)))))
theorem cal_next_events (T : TT K mg) : CalD P w K mg base C8.CX0 10 "next_events" 2 [] gAll F_next_events := by
  obtain ⟨fd, hf, hm, hF⟩ := fn_next_events (P := P) (w := w) (base := base) T
  exact ⟨_, fd, _, hF, hm, hf.kp, bdd_all (hf.bindsN fun _ _ _ _ _ _ us hl => match us, hl with | [_, _], _ => rfl)⟩
theorem sc_lets_run : FnScope ["program", "thing", "fault", "word", "place"] ["program", "thing"] (defScope s_lets_run) := C8.fnScope_by (by decide +kernel)
theorem fn_lets_run (T : TT K mg) : ∃ fd, FunD K "lets_run" "lets_run" (defArgs s_lets_run) (defBody s_lets_run) (defScope s_lets_run) (d_lets_run.dvs K) (d_lets_run.kws K) (He.fAd K ("lets_run", none)) fd ∧ mg "lets_run" = some (.ref (He.fAd K ("lets_run", none))) ∧ FnD P w K mg base C8.CX0 8 (He.fAd K ("lets_run", none)) fd ["program", "thing"] F_lets_run := by
  obtain ⟨fd, hf, hm⟩ := T.df d_lets_run (List.mem_of_getElem? (i := 53) rfl)
  have SC := sc_lets_run
  refine ⟨fd, hf, hm, fnd_of0 (k := 7) hf SC fun cdv B outer s H E hr hgd => ?_⟩
  exact (fss_cons (fs_set (i := 2) SC.nd rfl (.inl rfl) (fe_call (cal_run_fault T) hr (by omega) hgd (by rfl) C8.pass0 (fa_cons (fe_var (pv 0)) (fa_cons (fe_var (pv 1)) fa_nil))))
      (fss_cons (fs_if (ft_cmp op_isNND (fe_var (pv 2)) fe_non) (fss_cons (fs_asg (fe_var (pv 2)) (fg_tup rfl (fgs_cons (fg_name (pg_name (i := 3) SC.nd rfl (.inl rfl))) (fgs_cons (fg_name (pg_name (i := 4) SC.nd rfl (.inl rfl))) fgs_nil))))
      (fss_one fs_no)) fss_nil)
      (fss_one (fs_ret (fe_callB call_lenD (by rfl) (T.fr "len" (List.mem_of_getElem? (i := 5) rfl)) (by decide +kernel) (fa_cons (fe_var (pv 1)) fa_nil))))))
theorem cal_lets_run (T : TT K mg) : CalD P w K mg base C8.CX0 8 "lets_run" 2 [] gAll F_lets_run := by
  obtain ⟨fd, hf, hm, hF⟩ := fn_lets_run (P := P) (w := w) (base := base) T
  exact ⟨_, fd, _, hF, hm, hf.kp, bdd_all (hf.bindsN fun _ _ _ _ _ _ us hl => match us, hl with | [_, _], _ => rfl)⟩
theorem sc_law : FnScope ["_law_script", "_law_tape_here", "_law_prog", "_law_kept", "_law_some", "_law_did", "_law_state", "_law_here", "_law_act"] ["_law_script"] (defScope s_law) := C8.fnScope_by (by decide +kernel)
theorem fn_law (T : TT K mg) : ∃ fd, FunD K "law" "law" (defArgs s_law) (defBody s_law) (defScope s_law) (d_law.dvs K) (d_law.kws K) (He.fAd K ("law", none)) fd ∧ mg "law" = some (.ref (He.fAd K ("law", none))) ∧ FnD P w K mg base C8.CX0 11 (He.fAd K ("law", none)) fd ["_law_script"] F_law := by
  obtain ⟨fd, hf, hm⟩ := T.df d_law (List.mem_of_getElem? (i := 54) rfl)
  have SC := sc_law
  refine ⟨fd, hf, hm, fnd_of0 (k := 10) hf SC fun cdv B outer s H E hr hgd => ?_⟩
  exact (fss_cons (fs_set (i := 1) SC.nd rfl (.inl rfl) (fe_call (cal__law_tape T) hr (by omega) hgd (by rfl) C8.pass0 (fa_cons (fe_var (pv 0)) fa_nil)))
      (fss_cons (fs_set (i := 2) SC.nd rfl (.inl rfl) (fe_call (cal__law_program T) hr (by omega) hgd (by rfl) C8.pass0 (fa_cons (fe_var (pv 1)) fa_nil)))
      (fss_cons (fs_par (i := 3) (j := 4) rfl SC.nd rfl rfl (by decide) rfl rfl (fa_cons (fe_callB (call_reprD hgd (room_u hr)) (by rfl) (T.fr "repr" (List.mem_of_getElem? (i := 7) rfl)) (by decide +kernel) (fa_cons (fe_var (pv 2)) fa_nil)) (fa_cons (fe_call (cal__law_events T) hr (by omega) hgd (by rfl) C8.pass0 (fa_cons (fe_var (pv 2)) fa_nil)) fa_nil)) (by rfl))
      (fss_cons (fs_for PassesOwn.never rfl (fi_seq (fe_call (cal__law_runs T) hr (by omega) hgd (by rfl) C8.pass0 (fa_cons (fe_var (pv 2)) fa_nil))) (fgw_n (fg_tup rfl (fgs_cons (fg_name (pg_name (i := 5) SC.nd rfl (.inl rfl))) (fgs_cons (fg_name (pg_name (i := 6) SC.nd rfl (.inl rfl))) fgs_nil)))) (fss_cons (fs_set (i := 7) SC.nd rfl (.inl rfl) (fe_call (cal__law_open T) hr (by omega) hgd (by rfl) C8.pass0 (fa_cons (fe_var (pv 2)) (fa_cons (fe_var (pv 6)) fa_nil))))
      (fss_cons (fs_if (ft_cmp (op_neDD (room_64 hr)) (fe_callB (call_reprD hgd (room_u hr)) (by rfl) (T.fr "repr" (List.mem_of_getElem? (i := 7) rfl)) (by decide +kernel) (fa_cons (fe_lst (fa_cons (fe_call (cal_is_run T) hr (by omega) hgd (by rfl) C8.pass0 (fa_cons (fe_var (pv 2)) (fa_cons (fe_var (pv 5)) fa_nil))) (fa_cons (fe_call (cal_lets_run T) hr (by omega) hgd (by rfl) C8.pass0 (fa_cons (fe_var (pv 2)) (fa_cons (fe_var (pv 5)) fa_nil))) fa_nil))) fa_nil)) (fe_callB (call_reprD hgd (room_u hr)) (by rfl) (T.fr "repr" (List.mem_of_getElem? (i := 7) rfl)) (by decide +kernel) (fa_cons (fe_lst (fa_cons fe_bl (fa_cons (fe_callB call_lenD (by rfl) (T.fr "len" (List.mem_of_getElem? (i := 5) rfl)) (by decide +kernel) (fa_cons (fe_var (pv 5)) fa_nil)) fa_nil))) fa_nil))) (fss_one (fs_ret fe_bl)) fss_nil)
      (fss_cons (fs_if (ft_cmp (op_neDD (room_64 hr)) (fe_callB (call_reprD hgd (room_u hr)) (by rfl) (T.fr "repr" (List.mem_of_getElem? (i := 7) rfl)) (by decide +kernel) (fa_cons (fe_call (cal_next_events T) hr (by omega) hgd (by rfl) C8.pass0 (fa_cons (fe_var (pv 2)) (fa_cons (fe_var (pv 5)) fa_nil))) fa_nil)) (fe_callB (call_reprD hgd (room_u hr)) (by rfl) (T.fr "repr" (List.mem_of_getElem? (i := 7) rfl)) (by decide +kernel) (fa_cons (fe_callTy call_tupleD (by rfl) (T.fr "tuple" (List.mem_of_getElem? (i := 10) rfl)) (by decide +kernel) (fa_cons (fe_var (pv 7)) fa_nil)) fa_nil))) (fss_one (fs_ret fe_bl)) fss_nil)
      (fss_one (fs_for PassesOwn.never rfl (fi_seq (fe_op op_addD (fe_var (pv 4)) (fe_lst (fa_cons (fe_tup (fa_cons (fe_str (by decide +kernel)) (fa_cons fe_int fa_nil))) (fa_cons fe_non fa_nil))))) (fgw_n (fg_name (pg_name (i := 8) SC.nd rfl (.inl rfl)))) (fss_one (fs_if (ft_cmp (op_neDD (room_64 hr)) (fe_callB (call_reprD hgd (room_u hr)) (by rfl) (T.fr "repr" (List.mem_of_getElem? (i := 7) rfl)) (by decide +kernel) (fa_cons (fe_call (cal_is_run T) hr (by omega) hgd (by rfl) C8.pass0 (fa_cons (fe_var (pv 2)) (fa_cons (fe_op op_addD (fe_var (pv 5)) (fe_tup (fa_cons (fe_var (pv 8)) fa_nil))) fa_nil))) fa_nil)) (fe_callB (call_reprD hgd (room_u hr)) (by rfl) (T.fr "repr" (List.mem_of_getElem? (i := 7) rfl)) (by decide +kernel) (fa_cons (fe_cmp (op_inDD (room_65 hr)) (fe_var (pv 8)) (fe_var (pv 7))) fa_nil))) (fss_one (fs_ret fe_bl)) fss_nil))))))))
      (fss_one (fs_ret (fe_cmp (op_eqDD (room_64 hr)) (fe_callB (call_reprD hgd (room_u hr)) (by rfl) (T.fr "repr" (List.mem_of_getElem? (i := 7) rfl)) (by decide +kernel) (fa_cons (fe_var (pv 2)) fa_nil)) (fe_var (pv 3)))))))))
end
end K28
end

section
set_option Elab.async false
set_option linter.all false
set_option maxRecDepth 100000
set_option autoImplicit false
set_option maxHeartbeats 0
namespace K28
open PySem PySem.Spec PyProof.Rows L2 FL
def ns0 : List PySem.Str := ["StampError", "PaperError", "ProgramError", "InvalidPaper", "NotUsable", "LETTERS", "LONGEST_NAME", "is_integer", "is_number", "is_name", "COUNTER_LOOKS", "ORDER_LOOKS", "LOOK_WORDS", "EQUAL_WORDS", "require_given", "party_names", "party_spot", "slot_spot", "owner_spot", "is_event_of", "arrow_at", "all_events", "first_state", "stands_at", "look_gap", "is_true", "can_come", "put_at", "state_behind", "events_in"]
def ns1 : List PySem.Str := ["fault_in", "run_fault", "is_run", "lets_run", "states_along", "state_after", "next_events", "_law_tape", "_law_draw", "_law_pick", "_law_scenes", "_law_names", "_law_table", "_law_arrow", "_law_written", "_law_pairs", "_law_deed", "_law_plain", "_law_grown", "_law_free", "_law_program", "_law_begun", "_law_events", "_law_at", "_law_arrow_of", "_law_stamp", "_law_count", "_law_gap", "_law_is_look", "_law_is_true"]
def ns2 : List PySem.Str := ["_law_stands", "_law_open", "_law_put", "_law_after", "_law_reached", "_law_runs"]
def loose : List PySem.Str := ns0 ++ ns1 ++ ns2
def fas : List He.Fa := [.glo "_law_tape", .glo "_law_arrow", .glo "_law_written", .glo "_law_draw", .glo "_law_names", .glo "_law_table", .glo "_law_pairs", .glo "_law_pick", .glo "_law_deed", .glo "_law_plain", .glo "_law_grown", .glo "_law_free", .glo "_law_scenes", .glo "_law_program", .glo "_law_begun", .glo "_law_at", .glo "_law_arrow_of", .glo "_law_put", .glo "_law_count", .glo "_law_stamp", .glo "_law_after", .glo "_law_events", .glo "_law_stands", .glo "_law_gap", .glo "_law_is_look", .glo "_law_is_true", .glo "_law_open", .glo "_law_runs", .glo "all_events", .glo "party_names", .glo "party_spot", .glo "arrow_at", .glo "stands_at", .glo "is_true", .glo "slot_spot", .glo "owner_spot", .glo "look_gap", .glo "can_come", .glo "events_in", .glo "require_given", .glo "first_state", .glo "is_name", .glo "is_integer", .glo "is_number", .glo "is_event_of", .glo "fault_in", .glo "put_at", .glo "state_behind", .glo "run_fault", .glo "is_run", .glo "states_along", .glo "state_after", .glo "next_events", .glo "lets_run", .glo "law"] ++ [.free "all", .free "bool", .free "enumerate", .free "int", .free "isinstance", .free "len", .free "range", .free "repr", .free "sorted", .free "str", .free "tuple"]
def cok (K : PySem.W.Frag) : Bool := cns.all (conIs K)
abbrev RR : PySem.W.OpenRow := PySem.W.OpenLaw.row PySem.Challenge.rw_samestamp_k28_whole_every_run
abbrev hk : PySem.W.Hook := He.hookX 4 fas dfs [] [] cok
def ob (s : PySem.W.SharedT) : He.AlX := He.obsX 4 fas dfs [] [] cok (HandSHeadRun.getT s)
theorem ob_eq (s : PySem.W.SharedT) : ob s = hk.obs s.abs := He.obsX_eq (HandSHeadRun.getT_eq s)
theorem run (w : World) : HandSHeadRun.RunEq RR (PySem.W.view RR.prog [71]) hk ob 6000 loose w := by
  intro os
  kernel_rfl
theorem top_of {w : World} {h h' : Heap} {K : PySem.W.Frag} {mg : Str → Option Value} (X : K.In h) (G : h.Ns mainGlobals mg) (c : He.SaysX fas dfs [] [] cok w h' K) : TT K mg := by
  have cd := c.t.d
  refine ⟨fun x hx => ?_, fun q hq => ?_, fun d hd => ?_⟩
  · exact He.free_ok X G (cd.facts (f := .free x) (List.mem_append_right _ (List.mem_map_of_mem (f := He.Fa.free) hx)))
  · exact con_ok X G (List.all_eq_true.mp c.more q hq)
  · obtain ⟨fd, F⟩ := cd.defs hd
    refine ⟨fd, F, ?_⟩
    have e : d.at_ = (d.name, none) ∧ He.Fa.glo d.name ∈ fas := by
      have all : dfs.all (fun d => decide (d.at_ = (d.name, none)) && fas.any (fun f => match f with | .glo y => decide (y = d.name) | _ => false)) = true := by decide +kernel
      have a := List.all_eq_true.mp all d hd
      obtain ⟨a1, a2⟩ := Bool.and_eq_true_iff.mp a
      refine ⟨of_decide_eq_true a1, ?_⟩
      obtain ⟨f, hf, hq⟩ := List.any_eq_true.mp a2
      cases f with
      | glo y => rw [← of_decide_eq_true hq]; exact hf
      | _ => cases hq
    have g := He.glo_ok X G (cd.facts e.2)
    rw [g, e.1]
    rfl
end K28
end

section
set_option Elab.async false
set_option linter.all false
set_option maxRecDepth 100000
set_option autoImplicit false
set_option maxHeartbeats 4000000
namespace K28
open PySem PySem.Spec PyProof.Rows L2 FL SS
local macro_rules
  | `(tactic| simp_arith only [$xs,*]) => `(tactic| simp (config := { implicitDefEqProofs := false }) only [tn_ok, oR_some, nx_ok, ev_var, ev_c, ev_bin, ev_kBin1, ev_kBin2, ev_un, ev_kUn, ev_asB, ev_kB, ev_asT, ev_kT, ev_tAnd2, ev_kAndT, ev_kAndF, ev_tOr2, ev_kOrT, ev_kOrF, ev_not, ev_kNot, ev_eAnd2, ev_kAndE, ev_kAndET, ev_kAndEF, ev_eOr2, ev_kOrE, ev_kOrET, ev_kOrEF, ev_eNot1, ev_kNotE, ev_kNotE2, ev_if, ev_kIfT, ev_kIfF, ev_aNil, ev_aCons, ev_kCons, ev_kCons2, ev_aStar, ev_kStar, ev_kStar2, ev_kStar3, ev_eTup, ev_kTup, ev_kTup2, ev_eLst, ev_kLst, ev_kLst2, ev_eNewL, ev_kNewL, ev_kNewL2, ev_newD, ev_callP, ev_kCallP, ev_call, ev_kCall, ev_kCall2, ev_oNone, ev_oSome, ev_kO, ev_kO2, ev_sl, ev_kSl, ev_kSl2, ev_kSl3, ev_meth, ev_kM, ev_kM2, ev_kM3, ev_meth0, ev_kM0, ev_chain, ev_kCh, ev_kCh2, ev_kCh3T, ev_kCh3F, ev_kCh4, ev_kLs, ev_kComp, ev_comp, ev_kRef, ev_compM, ev_kComp2, ev_comp2, ev_iSeq, ev_kIt, ev_iRange, ev_kRg, ev_enT, ev_enL, ev_iEnum, items_lst, items_tup, items_str, ev_true, ev_ret, ev_kRet, ev_expr, ev_kEx, ev_asg, ev_kAsg, ev_kNx, ev_seq, ev_kSeqN, ev_kSeqR, ev_kSeqB, ev_kSeqC, ev_ifS, ev_kIfST, ev_kIfSF, ev_for, ev_kFor, ev_next, ev_retN, ev_break, ev_cont, ev_par, ev_kPar, ev_par3, ev_kPar3, ev_gName, ev_gTup, ev_gsNil, ev_gsCons, ev_kGs, ev_gSub, ev_kSub, ev_kSub2, ev_kSub3, ev_kSub4, ev_mut, ev_kMu, ev_kMu2, ev_kMu3, ev_kMu4, ev_catM, ev_kCat, ev_kCat2, ev_catR, vw_non, vw_bl, vw_int, vw_str, vw_lst, vw_tup, vw_dct, vw_ref, vwO_lst, vwO_dct, tru_bl, tru_int, tru_lst, tru_tup, tru_non, add_int, add_lst, add_tup, add_str, sub_int, neg_int, gt_int, ge_int, lt_int, le_int, len_lst, len_tup, len_dct, len_str, int_int, tuple_lst, tuple_tup, list_lst, list_tup, sl_lst, sl_tup, is_non, isnt_non, non_bl, non_int, non_str, non_lst, non_tup, non_non, int_int?, ref_ref?, alt_tup, alt_lst, isi_int_non, isi_int_bl, isi_int_int, isi_int_str, isi_int_lst, isi_int_tup, isi_bool_non, isi_bool_bl, isi_bool_int, isi_bool_str, isi_bool_lst, isi_bool_tup, isi_str_non, isi_str_bl, isi_str_int, isi_str_str, isi_str_lst, isi_str_tup, isi_tuple_non, isi_tuple_bl, isi_tuple_int, isi_tuple_str, isi_tuple_lst, isi_tuple_tup, isi_list_non, isi_list_bl, isi_list_int, isi_list_str, isi_list_lst, isi_list_tup, isi_dict_non, isi_dict_bl, isi_dict_int, isi_dict_str, isi_dict_lst, isi_dict_tup, tyIn_lst2, tyD_lst, tyIn_tup2, tyD_tup, tyIn_str, tyD_str, tyIn_dct, tyD_dct, ev_cStep, ev_kC, ev_kC2T, ev_kC2F, ev_kSome, ev_cStep2, ev_kD, ev_kD2T, ev_kD2F, ev_kD3, ev_lStep, ev_kL, List.getElem?_cons_zero, List.getElem?_cons_succ, Option.join_some, Option.bind_some, Option.map_some, wipeE, List.set_cons_zero, List.set_cons_succ, List.length_cons, List.length_nil, List.map_cons, List.map_nil, gAll, gDef, List.cons_append, List.nil_append, if_true, if_false, Bool.not_true, Bool.not_false, Nat.zero_add, Nat.reduceAdd, Nat.reduceLeDiff, and_true, and_self, true_and, reduceIte, Bool.false_eq_true, $xs,*])
theorem o_draw : SpDraw F__law_draw := draw_ok (C0 := 131) (M0 := 1999999943) (K1 := 48239) (A1 := 283) (M1 := 2147483423) (K2 := 8243) (A2 := 131) (M2 := 2147483477) (by omega) (by omega) (by omega) (by omega) (by omega) (by omega) (by omega) (by omega)
theorem o_pick : SpPick F__law_pick := law_pick_ok o_draw
theorem o_names : SpNm F__law_names := law_names_ok o_draw
theorem o_table : SpTable F__law_table := law_table_ok o_names
theorem o_arrow : SpArw F__law_arrow := law_arrow_ok
theorem o_written : SpWritten F__law_written := law_written_ok o_arrow
theorem o_pairs : SpPairs F__law_pairs := law_pairs_ok
theorem o_deed : SpDeed F__law_deed := law_deed_ok o_draw o_pairs o_pick
theorem o_plain : SpPlain F__law_plain := law_plain_ok
theorem o_grown : SpGrown F__law_grown := law_grown_ok o_deed o_draw o_plain
theorem o_free : SpFree F__law_free := law_free_ok o_draw o_grown o_pick
theorem o_scenes : SpScenes F__law_scenes := law_scenes_ok
theorem o_program : SpProgram F__law_program := law_program_ok o_draw o_free o_grown o_pick o_scenes o_table o_written
theorem o_begun : SpFirst F__law_begun := law_begun_ok
theorem o_events : SpAll F__law_events := law_events_ok
theorem o_atP : SpAtP F__law_at := law_atP_ok
theorem o_atS : SpAtS F__law_at := law_atS_ok
theorem o_arrow_of : SpArrow F__law_arrow_of := law_arrow_of_ok o_atP
theorem o_stands : SpStands F__law_stands := law_stands_ok o_arrow_of o_atP
theorem o_stamp : SpStamp F__law_stamp := law_stamp_ok o_atS
theorem o_count : SpCount F__law_count := law_count_ok o_atS
theorem o_gap : SpGap F__law_gap := law_gap_ok o_count o_stamp
theorem o_is_look : SpIsLook F__law_is_look := law_is_look_ok
theorem o_is_true : SpTrue3 F__law_is_true := law_is_true_ok o_gap o_is_look
theorem o_open : SpOpen F__law_open := law_open_ok o_arrow_of o_events o_is_true o_stands
theorem o_put : SpPut F__law_put := law_put_ok
theorem o_after : SpBehind F__law_after := law_after_ok o_arrow_of o_atP o_atS o_count o_put o_stamp
theorem p_all : SpAll F_all_events := all_events_ok
theorem p_names : SpNames F_party_names := party_names_ok
theorem p_spot : SpSpot F_party_spot := party_spot_ok p_names
theorem p_arrow : SpArrow F_arrow_at := arrow_at_ok p_spot
theorem p_stands : SpStands F_stands_at := stands_at_ok p_arrow p_spot
theorem p_is_true : SpIsTrue F_is_true := is_true_ok
theorem p_slot : SpSlot F_slot_spot := slot_spot_ok
theorem p_owner : SpOwner F_owner_spot := owner_spot_ok p_slot
theorem p_gap : SpGap F_look_gap := look_gap_ok p_owner p_slot
theorem p_can : SpCan F_can_come := can_come_ok p_arrow p_is_true p_gap p_stands
theorem p_in : SpIn F_events_in := events_in_ok p_all p_can
theorem p_req : SpReq F_require_given := require_given_ok
theorem p_first : SpFirst F_first_state := first_state_ok
theorem p_name : SpName F_is_name := is_name_ok
theorem p_int : SpInt F_is_integer := is_integer_ok
theorem p_num : SpNum F_is_number := is_number_ok p_int
theorem p_event : SpEvent F_is_event_of := is_event_of_ok p_name p_num p_names p_spot
theorem p_fault : SpFault F_fault_in := fault_in_ok p_can p_event p_stands
theorem p_put : SpPut F_put_at := put_at_ok
theorem p_behind : SpBehind F_state_behind := state_behind_ok p_arrow p_owner p_spot p_put p_slot
theorem p_runf : SpRunFault F_run_fault := run_fault_ok p_fault p_first p_behind
theorem p_run : SpRun F_is_run := is_run_ok p_runf
theorem p_along : SpAlong F_states_along := states_along_ok p_first p_behind
theorem p_after : SpAfter F_state_after := state_after_ok p_run p_req p_along
theorem p_next : SpNext F_next_events := next_events_ok p_in p_after
theorem o_tape : SpTape F__law_tape := law_tape_ok
theorem p_nameG : SpNameG F_is_name := is_nameG_ok
theorem p_intG : SpIntG F_is_integer := is_integerG_ok
theorem p_numG : SpNumG F_is_number := is_numberG_ok p_intG
theorem p_eventG : SpEventG F_is_event_of := is_event_ofG_ok p_nameG p_numG p_names p_spot
theorem p_faultG : SpFaultG F_fault_in := fault_inG_ok p_can p_eventG p_stands
theorem p_runfG : SpRunFaultG F_run_fault := run_faultG_ok p_faultG p_first p_behind
theorem p_runG : SpRunG F_is_run := is_runG_ok p_runfG
theorem p_lets : SpLets F_lets_run := lets_run_ok p_runf
theorem o_runs : SpRuns F__law_runs := law_runs_ok o_after o_begun o_open
end K28
namespace SS.Q28
open PySem PySem.Spec PyProof.Rows L2 FL K28
local macro_rules
  | `(tactic| simp_arith only [$xs,*]) => `(tactic| simp (config := { implicitDefEqProofs := false }) only [tn_ok, oR_some, nx_ok, ev_var, ev_c, ev_bin, ev_kBin1, ev_kBin2, ev_un, ev_kUn, ev_asB, ev_kB, ev_asT, ev_kT, ev_tAnd2, ev_kAndT, ev_kAndF, ev_tOr2, ev_kOrT, ev_kOrF, ev_not, ev_kNot, ev_eAnd2, ev_kAndE, ev_kAndET, ev_kAndEF, ev_eOr2, ev_kOrE, ev_kOrET, ev_kOrEF, ev_eNot1, ev_kNotE, ev_kNotE2, ev_if, ev_kIfT, ev_kIfF, ev_aNil, ev_aCons, ev_kCons, ev_kCons2, ev_aStar, ev_kStar, ev_kStar2, ev_kStar3, ev_eTup, ev_kTup, ev_kTup2, ev_eLst, ev_kLst, ev_kLst2, ev_eNewL, ev_kNewL, ev_kNewL2, ev_newD, ev_callP, ev_kCallP, ev_call, ev_kCall, ev_kCall2, ev_oNone, ev_oSome, ev_kO, ev_kO2, ev_sl, ev_kSl, ev_kSl2, ev_kSl3, ev_meth, ev_kM, ev_kM2, ev_kM3, ev_meth0, ev_kM0, ev_chain, ev_kCh, ev_kCh2, ev_kCh3T, ev_kCh3F, ev_kCh4, ev_kLs, ev_kComp, ev_comp, ev_kRef, ev_compM, ev_kComp2, ev_comp2, ev_iSeq, ev_kIt, ev_iRange, ev_kRg, ev_enT, ev_enL, ev_iEnum, items_lst, items_tup, items_str, ev_true, ev_ret, ev_kRet, ev_expr, ev_kEx, ev_asg, ev_kAsg, ev_kNx, ev_seq, ev_kSeqN, ev_kSeqR, ev_kSeqB, ev_kSeqC, ev_ifS, ev_kIfST, ev_kIfSF, ev_for, ev_kFor, ev_next, ev_retN, ev_break, ev_cont, ev_par, ev_kPar, ev_par3, ev_kPar3, ev_gName, ev_gTup, ev_gsNil, ev_gsCons, ev_kGs, ev_gSub, ev_kSub, ev_kSub2, ev_kSub3, ev_kSub4, ev_mut, ev_kMu, ev_kMu2, ev_kMu3, ev_kMu4, ev_catM, ev_kCat, ev_kCat2, ev_catR, vw_non, vw_bl, vw_int, vw_str, vw_lst, vw_tup, vw_dct, vw_ref, vwO_lst, vwO_dct, tru_bl, tru_int, tru_lst, tru_tup, tru_non, add_int, add_lst, add_tup, add_str, sub_int, neg_int, gt_int, ge_int, lt_int, le_int, len_lst, len_tup, len_dct, len_str, int_int, tuple_lst, tuple_tup, list_lst, list_tup, sl_lst, sl_tup, is_non, isnt_non, non_bl, non_int, non_str, non_lst, non_tup, non_non, int_int?, ref_ref?, alt_tup, alt_lst, isi_int_non, isi_int_bl, isi_int_int, isi_int_str, isi_int_lst, isi_int_tup, isi_bool_non, isi_bool_bl, isi_bool_int, isi_bool_str, isi_bool_lst, isi_bool_tup, isi_str_non, isi_str_bl, isi_str_int, isi_str_str, isi_str_lst, isi_str_tup, isi_tuple_non, isi_tuple_bl, isi_tuple_int, isi_tuple_str, isi_tuple_lst, isi_tuple_tup, isi_list_non, isi_list_bl, isi_list_int, isi_list_str, isi_list_lst, isi_list_tup, isi_dict_non, isi_dict_bl, isi_dict_int, isi_dict_str, isi_dict_lst, isi_dict_tup, tyIn_lst2, tyD_lst, tyIn_tup2, tyD_tup, tyIn_str, tyD_str, tyIn_dct, tyD_dct, ev_cStep, ev_kC, ev_kC2T, ev_kC2F, ev_kSome, ev_cStep2, ev_kD, ev_kD2T, ev_kD2F, ev_kD3, ev_lStep, ev_kL, List.getElem?_cons_zero, List.getElem?_cons_succ, Option.join_some, Option.bind_some, Option.map_some, wipeE, List.set_cons_zero, List.set_cons_succ, List.length_cons, List.length_nil, List.map_cons, List.map_nil, gAll, gDef, List.cons_append, List.nil_append, if_true, if_false, Bool.not_true, Bool.not_false, Nat.zero_add, Nat.reduceAdd, Nat.reduceLeDiff, and_true, and_self, true_and, reduceIte, Bool.false_eq_true, $xs,*])
open Classical in
theorem loop1 {p : Pg} (ok : p.Ok) {es : List Ev} (hr : okRoad p p.begun es) (hl : es.length ≤ 6) {S : Sto} {x0 x1 x3 x4 x6 x8 : Option D} {xs : List D} (hx : ∀ x ∈ xs, Like x ∧ Pn x) :
    ∃ y8, loopD (gName' 8) B_law_L1 xs [x0, x1, some p.d, x3, x4, some (.tup (es.map evD)), x6, some (.lst ((opn p es).map evD)), x8] S
      = .ok (.nx [x0, x1, some p.d, x3, x4, some (.tup (es.map evD)), x6, some (.lst ((opn p es).map evD)), y8]) S := by
  obtain ⟨r', S', lo, _, ⟨y8, rfl⟩, rfl⟩ := loopD_inv (b := gName' 8) (body := B_law_L1) (fun d : D => d) (fun xs r S' => (∀ x ∈ xs, Like x ∧ Pn x) ∧ (∃ y8, r = [x0, x1, some p.d, x3, x4, some (.tup (es.map evD)), x6, some (.lst ((opn p es).map evD)), y8]) ∧ S' = S) (by
    intro x xs r S1 ⟨hx, ⟨y8, hr0⟩, hS⟩
    subst hr0 hS
    obtain ⟨hk, hp⟩ := hx x List.mem_cons_self
    have e1 := p_runG p (es.map evD ++ [x]) S1 ok (fun d hd => by
      rcases List.mem_append.mp hd with hd | hd
      · obtain ⟨e, he, rfl⟩ := List.mem_map.mp hd
        exact like_ev ok (okRoad_mem hr e he)
      · have : d = x := by simpa using hd
        rw [this]; exact hk)
    rw [faultL_road [x] es _ 0 hr, faultL_one] at e1
    have inn := inD_pn (.inl rfl) ((pk_evs (opn p es)).pn (by omega)) hp
    have mem : decide (x ∈ (opn p es).map evD) = isOpenB p (lastSt p p.begun es) x := by
      rw [Bool.eq_iff_iff, decide_eq_true_iff]
      exact isOpenB_mem.symm
    rw [mem] at inn
    generalize isOpenB p (lastSt p p.begun es) x = b at e1 inn
    have rp := reprb_ok (rp_bl 0 b) (by omega) (by omega)
    have hv : vw S1 x = x := nr_vw (like_nr hk)
    have cp : (es.map evD).length + 1 ≤ 1000000 := by rw [List.length_map]; omega
    refine ⟨_, S1, ?_, fun x h => hx x (List.mem_cons_of_mem _ h), ⟨some x, rfl⟩, rfl⟩
    simp_arith only [B_law_L1, few1, cap_ok cp, e1, hv, inn, rp, neD_str, str_eq]) xs [x0, x1, some p.d, x3, x4, some (.tup (es.map evD)), x6, some (.lst ((opn p es).map evD)), x8] S ⟨hx, ⟨x8, rfl⟩, rfl⟩
  rw [List.map_id''] at lo
  · exact ⟨y8, lo⟩
  · exact fun _ => rfl
theorem loop2 {p : Pg} (ok : p.Ok) {S : Sto} {x0 x1 x3 x5 x6 x7 x8 : Option D} {rs : List (List Ev)} (hrs : ∀ es ∈ rs, okRoad p p.begun es ∧ es.length ≤ 6) :
    ∃ y5 y6 y7 y8, loopD (gTup' 2 (gsCons (gName' 5) (gsCons (gName' 6) gsNil))) B_law_L2 (rs.map (runD p)) [x0, x1, some p.d, x3, some (.lst (p.evs.map evD)), x5, x6, x7, x8] S
      = .ok (.nx [x0, x1, some p.d, x3, some (.lst (p.evs.map evD)), y5, y6, y7, y8]) S := by
  obtain ⟨r', S', lo, _, ⟨y5, y6, y7, y8, rfl⟩, rfl⟩ := loopD_inv (b := gTup' 2 (gsCons (gName' 5) (gsCons (gName' 6) gsNil))) (body := B_law_L2) (runD p) (fun rs r S' => (∀ es ∈ rs, okRoad p p.begun es ∧ es.length ≤ 6) ∧ (∃ y5 y6 y7 y8, r = [x0, x1, some p.d, x3, some (.lst (p.evs.map evD)), y5, y6, y7, y8]) ∧ S' = S) (by
    intro es rs r S1 ⟨hrs, ⟨y5, y6, y7, y8, hr0⟩, hS⟩
    subst hr0 hS
    obtain ⟨hr, hl⟩ := hrs es List.mem_cons_self
    have so : (lastSt p p.begun es).Ok p := lastSt_ok (begun_ok p)
    have e1 := o_open p (lastSt p p.begun es) S1 ok so
    rw [show p.evs.filter (canE p (lastSt p p.begun es)) = opn p es from rfl] at e1
    have e2 := p_run p es S1 ok hr
    have e3 := p_lets p es S1 ok hr (by omega)
    have e4 := p_next p es S1 ok hr (by omega)
    rw [show p.evs.filter (canE p (lastSt p p.begun es)) = opn p es from rfl] at e4
    have r1 := reprb_ok (d := .lst [.bl true, .int (es.length : Nat)]) (rp_seq (k := 0) (n := 62) (m := 2) (fun d hd => by
      simp only [List.mem_cons, List.not_mem_nil, or_false] at hd
      rcases hd with rfl | rfl
      · exact rp_bl 0 true
      · exact rp_int 0 (by omega)) (by simp)).1 (by omega) (by omega)
    have r2 := reprb_ok (rp_map (k := 1) (n := 171) (m := 1000) evD (xs := opn p es) (fun e he => rp_ev 0 ok (List.mem_filter.mp he).1) (Nat.le_trans (List.length_filter_le ..) (len_evs ok))).2 (by omega) (by omega)
    have le := len_evs ok
    have ad : cap ((p.evs.map evD).length + 2) (D.lst (p.evs.map evD ++ [.tup [.str "nobody", .int 0], .non])) = some (.lst (p.evs.map evD ++ [.tup [.str "nobody", .int 0], .non])) := cap_ok (by rw [List.length_map]; omega)
    obtain ⟨z8, l1⟩ := loop1 ok hr hl (S := S1) (x0 := x0) (x1 := x1) (x3 := x3) (x4 := some (.lst (p.evs.map evD))) (x6 := some (lastSt p p.begun es).d) (x8 := y8) (xs := p.evs.map evD ++ [.tup [.str "nobody", .int 0], .non]) (fun x hx => by
      rcases List.mem_append.mp hx with hx | hx
      · obtain ⟨e, he, rfl⟩ := List.mem_map.mp hx
        exact ⟨like_ev ok he, (pk_ev e).pn (by omega)⟩
      · simp only [List.mem_cons, List.not_mem_nil, or_false] at hx
        rcases hx with rfl | rfl
        · exact ⟨⟨by simp, fun a b hab => by
            cases hab
            exact ⟨rfl, rfl, fun n hn => by cases hn; exact ⟨by decide +kernel, by decide +kernel, by decide +kernel⟩⟩⟩, (pk_ev ("nobody", 0)).pn (by omega)⟩
        · exact ⟨trivial, ⟨rfl, by simp [dep]⟩⟩)
    refine ⟨_, S1, ?_, fun x h => hrs x (List.mem_cons_of_mem _ h), ⟨some (.tup (es.map evD)), some (lastSt p p.begun es).d, some (.lst ((opn p es).map evD)), z8, rfl⟩, rfl⟩
    rw [show runD p es = .tup [.tup (es.map evD), (lastSt p p.begun es).d] from rfl]
    have lm : (es.map evD).length = es.length := List.length_map ..
    generalize (py (D.lst [D.bl true, D.int (es.length : Nat)])).shown = t1 at r1
    generalize (py (D.tup ((opn p es).map evD))).shown = t2 at r2
    simp_arith only [B_law_L2, e1, e2, e3, few2, lm, cap_ok (show es.length ≤ 1000000 by omega), r1, neD_str, str_eq, e4, r2, ad, l1]) rs [x0, x1, some p.d, x3, some (.lst (p.evs.map evD)), x5, x6, x7, x8] S ⟨hrs, ⟨x5, x6, x7, x8, rfl⟩, rfl⟩
  exact ⟨y5, y6, y7, y8, lo⟩
theorem law_true (ns : List Int) (h : ns.length ≤ 63) : ∃ S', F_law [.lst (ns.map D.int)] [] = .ok (.bl true) S' := by
  have e1 := o_tape ns [] h
  have t0 := tp_tape ns []
  rw [List.nil_append] at e1 t0
  rw [show ([] : Sto).length = 0 from rfl] at e1
  obtain ⟨p, S1, ok, e2, c1⟩ := o_program [tapeOb ns 0 0 0] 0 0 t0 (by omega)
  have rp := repr_ok (sh_pg ok) (by omega)
  obtain ⟨tx, htx⟩ : ∃ tx, tx = (py p.d).shown := ⟨_, rfl⟩
  rw [← htx] at rp
  have e3 := o_events p S1 ok
  obtain ⟨rs, hrs, e4⟩ := o_runs p S1 ok
  obtain ⟨y5, y6, y7, y8, lo⟩ := loop2 ok hrs (S := S1) (x0 := some (.lst (ns.map D.int))) (x1 := some (.ref 0)) (x3 := some (.str tx)) (x5 := none) (x6 := none) (x7 := none) (x8 := none)
  refine ⟨[], ?_⟩
  show doneR false [] (B_law [some (.lst (ns.map D.int)), none, none, none, none, none, none, none, none] []) = _
  have ev : B_law [some (.lst (ns.map D.int)), none, none, none, none, none, none, none, none] [] = .ok (.rt (.bl true)) S1 := by
    simp_arith only [B_law, e1, e2, vw_pg, rp, e3, e4, lo, eqD_str, str_eq]
  rw [ev]
  exact cut_app [] S1 (.bl true) rfl
end SS.Q28
theorem K28.law_true (ns : List Int) (h : ns.length ≤ 63) : ∃ S', K28.F_law [.lst (ns.map FL.D.int)] [] = .ok (.bl true) S' := SS.Q28.law_true ns h
end

set_option Elab.async false
set_option linter.all false
set_option maxRecDepth 100000
set_option autoImplicit false
set_option maxHeartbeats 2000000
set_option maxHeartbeats 0
open PySem PySem.W PySem.Calls PyProof.Rows
namespace K28
abbrev Ro : OpenRow := OpenLaw.row PySem.Challenge.rw_samestamp_k28_whole_every_run
abbrev Qo : Program := view Ro.prog [71]
abbrev Do : DefRec := HandSHeadRun.topDef Ro.prog 71
theorem e1 : opening Ro.prog = plainProg Ro.prog.main.scope.names := by kernel_rfl
theorem e2 : ∀ s, fenceModules? Ro.prog s = some s := fun s => by kernel_rfl
theorem e3 : defOf Qo Ro.name = some (Do, []) := by kernel_rfl
theorem e4 : Ro.prog.theDef Ro.name = some (Do.params, Do.body, Do.scope) := by kernel_rfl
theorem e5 : kwWritten? Do.params.kwonlyargs Do.params.kw_defaults = some [] := by kernel_rfl
theorem e6 : (!Ro.writes || Ro.records.isEmpty) = true := by rfl
theorem e7 : (chainsOk Qo && opensWell Ro.prog && (frees Ro.toRowW && Ro.within.isEmpty)) = true := by decide +kernel
theorem e8 : Ro.toRowW.promised := by w_witness2
theorem e9 : Ro.prog.bare := ⟨rfl, rfl, rfl, rfl, rfl, by decide +kernel⟩
theorem ec : WalkO Qo loose (XL Qo []) hk.says Ro.toRowW Do [] fun f vs => PySem.call f vs := by
  refine FL.walk_D (l := PySem.Challenge.rw_samestamp_k28_whole_every_run) (n := 63) (k := 11) (x := "_law_script") rfl (by decide) (by kernel_rfl) ⟨rfl, by decide, by decide⟩ ?F
  intro w mg fa h Y G hmg0
  obtain ⟨K, KX, c⟩ := Y
  have hmg : mg ("law" : PySem.Str) = some (.ref fa) := by
    have e : (HandSHeadRun.topDef (OpenLaw.row PySem.Challenge.rw_samestamp_k28_whole_every_run).prog 71).name = ("law" : PySem.Str) := by kernel_rfl
    rw [← e]
    exact hmg0
  have T := top_of KX G c
  obtain ⟨fd, hf, hm, _⟩ := fn_law (P := (PySem.Challenge.rw_samestamp_k28_whole_every_run).prog) (w := w) (base := h) T
  have ea := hmg.symm.trans hm
  cases ea
  refine ⟨K, fd, F_law, KX, fun s u => hf.bindsA (ps := ["_law_script"]) (fun _ _ _ _ _ _ us hl => match us, hl with | [_], _ => rfl) s [u] rfl, law_true, fun base _ _ => ?_⟩
  obtain ⟨fd', hf', hm', hF⟩ := fn_law (P := (PySem.Challenge.rw_samestamp_k28_whole_every_run).prog) (w := w) (base := base) T
  have efd : fd' = fd := by
    obtain ⟨_, _, _, _, _, _, _, _, _, _, _, l1, _⟩ := hf.ex
    obtain ⟨_, _, _, _, _, _, _, _, _, _, _, l2, _⟩ := hf'.ex
    rw [l1] at l2
    injection l2 with l2
    injection l2 with _ _ l2 _
    injection l2 with l2
    exact l2.symm
  subst efd
  exact hF
end K28
theorem PySem.Challenge.cw_samestamp_k28_whole_every_run_holds : PySem.Challenge.rw_samestamp_k28_whole_every_run.Holds := by
  w_on; o_law
  exact HandSHeadRun.head_any (r := K28.Ro) (q := K28.Qo) (H := K28.hk) (ob := K28.ob) (M := 6000) (loose := K28.loose) (d := K28.Do) (kwd := []) K28.ob_eq K28.e1 K28.e2 K28.run K28.e3 K28.e4 K28.e5 K28.e6 (by assumption) K28.e7 K28.e9 K28.e8 K28.ec
